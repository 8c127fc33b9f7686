import PyProof.Rows.All
import HandS.CallLocal
import HandS.Conv
import HandS.Deep
import HandS.Defaults
import HandS.DictComp
import HandS.EndTab
import HandS.Ends
import HandS.ExcField
import HandS.ExcInit
import HandS.Flow
import HandS.ForExc
import HandS.ForMost
import HandS.Head0
import HandS.Head1
import HandS.Head2
import HandS.HeadHook4
import HandS.HeadWalk
import HandS.IsInst
import HandS.Lambda
import HandS.RaiseMore
import HandS.Rev
import HandS.SetFor
import HandS.Small
import HandS.SortInts
import HandS.SortKw
import HandS.Star
import HandS.Style
import HandS.TryMany
import HandS.TupAny
import HandS.Walk
import HandS.Words
import HandS.WordsExc
import HandS.Zip
import KE.DataMinMax
import KE.GoesEnum
import KE.SortData
import OpenK.AllK
import PySem.Challenge.RW_oldspares_k19_whole_repairs
import Wide.All
import Wide.FinOn
set_option Elab.async false
set_option linter.all false
set_option autoImplicit false
set_option maxRecDepth 100000
set_option maxHeartbeats 2000000
namespace Y
open PySem PySem.Spec PyProof.Rows L2

/-! ### deep data -/
inductive D where
  | non
  | bl (b : Bool)
  | int (i : Int)
  | str (s : Str)
  | lst (xs : List D)
  | tup (xs : List D)
  | dct (kvs : List (Key × D))
  | obj (c : Str) (fs : List (Str × D))
  | fn (x : Str)
  | row
  | mut (n : Nat)

/-- kinds of objects that stand as they are -/
def Fx : HO → Prop
  | .lst _ => False
  | .dK _ => False
  | .dT _ => False
  | .set _ _ => False
  | .ins _ _ _ => False
  | .own _ => False
  | .xd _ => False
  | .tbl _ => False
  | _ => True

/-- the table of the law's own lambdas -/
def lamT (K : PySem.W.Frag) : List (Addr × Str) := [((He.cT K (("law" : Str), none)).2, ("law" : Str) ++ ".<locals>." ++ "<lambda>")]
structure Ct where
  K : PySem.W.Frag
  mg : Str → Option Value

/-- what may change behind one's back: the row of draws, tables -/
structure Vo where
  K : PySem.W.Frag
  T : List (Addr × Str)
  vol : Addr → Prop
  rw : Addr
  RI : Hp → Prop
  rv : vol rw
  ne : ∀ H p, RI H → vol p → H p ≠ none
  st : ∀ H H', RI H → (∀ p, vol p → H' p = H p) → (∀ p o, Fx o → H p = some o → H' p = some o) → RI H'
  tk : ∀ H, RI H → ∃ (a : Addr) (ns : List Int) (i j k : Int), H rw = some (.lst [.ref a, .int i, .int j, .int k]) ∧ 0 ≤ i ∧ SqL K H a (ns.map V.int) ∧
    ∀ i' j' k' : Int, 0 ≤ i' → RI (upd H rw (.lst [.ref a, .int i', .int j', .int k']))
  tb : ∀ H, RI H → LamX.Tabs T H
  tx : ∀ H H1, RI H → LamX.ExtN H H1 → LamX.Tabs T H1 → RI H1

/-- the ground: frozen objects; the addresses of the changing ones -/
structure Gd where
  B : Hp
  al : List Addr

def le (B B' : Hp) : Prop := ∀ a o, B a = some o → B' a = some o
theorem le.refl (B : Hp) : le B B := fun _ _ h => h
theorem le.trans {A B C : Hp} (h : le A B) (k : le B C) : le A C := fun a o e => k a o (h a o e)

structure GLe (g g' : Gd) : Prop where
  b : le g.B g'.B
  a : ∀ (i : Nat) (x : Addr), g.al[i]? = some x → g'.al[i]? = some x
theorem GLe.refl (g : Gd) : GLe g g := ⟨le.refl _, fun _ _ h => h⟩
theorem GLe.trans {a b c : Gd} (h : GLe a b) (k : GLe b c) : GLe a c := ⟨h.b.trans k.b, fun i x e => k.a i x (h.a i x e)⟩

mutual
inductive Rep (c : Ct) (r : Addr) (g : Gd) : V → D → Prop
  | non : Rep c r g .non .non
  | bl (b : Bool) : Rep c r g (.bl b) (.bl b)
  | int (i : Int) : Rep c r g (.int i) (.int i)
  | str (s : Str) (z : s.length ≤ sizeLine) : Rep c r g (.str s) (.str s)
  | lst {a : Addr} {xs : List V} {ds : List D} (z : xs.length ≤ sizeLine) (h : g.B a = some (.lst xs)) (k : RepAll c r g xs ds) : Rep c r g (.ref a) (.lst ds)
  | tup {a : Addr} {xs : List V} {ds : List D} (z : xs.length ≤ sizeLine) (h : SqT c.K g.B a xs) (k : RepAll c r g xs ds) : Rep c r g (.ref a) (.tup ds)
  | dct {a : Addr} {xs : List (Key × V)} {ds : List (Key × D)} (z : xs.length ≤ sizeLine) {od : Obj} (h : g.B a = some (.frz od (.dK xs))) (k : RepKV c r g xs ds) : Rep c r g (.ref a) (.dct ds)
  | obj {a C dx : Addr} {x : Str} {xs : List (Str × V)} {ds : List (Str × D)} (e : c.mg x = some (.ref C)) (h : g.B a = some (.ins C dx xs)) (k : RepF c r g xs ds) : Rep c r g (.ref a) (.obj x ds)
  | fn {f : Addr} {x : Str} (e : c.mg x = some (.ref f)) : Rep c r g (.ref f) (.fn x)
  | row : Rep c r g (.ref r) .row
  | mut {a : Addr} {n : Nat} (e : g.al[n]? = some a) : Rep c r g (.ref a) (.mut n)
inductive RepAll (c : Ct) (r : Addr) (g : Gd) : List V → List D → Prop
  | nil : RepAll c r g [] []
  | cons {v : V} {d : D} {vs : List V} {ds : List D} (h : Rep c r g v d) (t : RepAll c r g vs ds) : RepAll c r g (v :: vs) (d :: ds)
inductive RepKV (c : Ct) (r : Addr) (g : Gd) : List (Key × V) → List (Key × D) → Prop
  | nil : RepKV c r g [] []
  | cons {k : Key} {v : V} {d : D} {vs : List (Key × V)} {ds : List (Key × D)} (h : Rep c r g v d) (t : RepKV c r g vs ds) : RepKV c r g ((k, v) :: vs) ((k, d) :: ds)
inductive RepF (c : Ct) (r : Addr) (g : Gd) : List (Str × V) → List (Str × D) → Prop
  | nil : RepF c r g [] []
  | cons {k : Str} {v : V} {d : D} {vs : List (Str × V)} {ds : List (Str × D)} (h : Rep c r g v d) (t : RepF c r g vs ds) : RepF c r g ((k, v) :: vs) ((k, d) :: ds)
end

theorem Rd.le {B B' : Hp} {a : Addr} {u : HO} (k : le B B') (h : Rd B a u) : Rd B' a u := by
  rcases h with h | ⟨o, h⟩
  · exact .inl (k _ _ h)
  · exact .inr ⟨o, k _ _ h⟩
theorem SqT.le {K : PySem.W.Frag} {B B' : Hp} {a : Addr} {xs : List V} (k : le B B') (h : SqT K B a xs) : SqT K B' a xs := by
  rcases h with h | h
  · exact .inl (Rd.le k h)
  · exact .inr h

mutual
theorem Rep.mono {c : Ct} {r : Addr} {g g' : Gd} (m : GLe g g') : ∀ {v : V} {d : D}, Rep c r g v d → Rep c r g' v d
  | _, _, .non => .non
  | _, _, .bl b => .bl b
  | _, _, .int i => .int i
  | _, _, .str s z => .str s z
  | _, _, .lst z h k => .lst z (m.b _ _ h) (RepAll.mono m k)
  | _, _, .tup z h k => .tup z (SqT.le m.b h) (RepAll.mono m k)
  | _, _, .dct z h k => .dct z (m.b _ _ h) (RepKV.mono m k)
  | _, _, .obj e h k => .obj e (m.b _ _ h) (RepF.mono m k)
  | _, _, .fn e => .fn e
  | _, _, .row => .row
  | _, _, .mut e => .mut (m.a _ _ e)
theorem RepAll.mono {c : Ct} {r : Addr} {g g' : Gd} (m : GLe g g') : ∀ {v : List V} {d : List D}, RepAll c r g v d → RepAll c r g' v d
  | _, _, .nil => .nil
  | _, _, .cons h t => .cons (Rep.mono m h) (RepAll.mono m t)
theorem RepKV.mono {c : Ct} {r : Addr} {g g' : Gd} (m : GLe g g') : ∀ {v : List (Key × V)} {d : List (Key × D)}, RepKV c r g v d → RepKV c r g' v d
  | _, _, .nil => .nil
  | _, _, .cons h t => .cons (Rep.mono m h) (RepKV.mono m t)
theorem RepF.mono {c : Ct} {r : Addr} {g g' : Gd} (m : GLe g g') : ∀ {v : List (Str × V)} {d : List (Str × D)}, RepF c r g v d → RepF c r g' v d
  | _, _, .nil => .nil
  | _, _, .cons h t => .cons (Rep.mono m h) (RepF.mono m t)
end

mutual
def D.toP : D → PyData
  | .non => .none
  | .bl b => .bool b
  | .int i => .int i
  | .str s => .str s
  | .lst xs => .list (D.toPs xs)
  | .tup xs => .tuple (D.toPs xs)
  | _ => .none
def D.toPs : List D → List PyData
  | [] => []
  | x :: xs => D.toP x :: D.toPs xs
end
mutual
def D.plain : D → Bool
  | .non => true
  | .bl _ => true
  | .int _ => true
  | .str _ => true
  | .lst xs => D.plains xs
  | .tup xs => D.plains xs
  | _ => false
def D.plains : List D → Bool
  | [] => true
  | x :: xs => D.plain x && D.plains xs
end
mutual
theorem Rep.dp {c : Ct} {r : Addr} {g : Gd} {H : Hp} (m : le g.B H) : ∀ {v : V} {d : D}, Rep c r g v d → d.plain = true → Dp c.K H v d.toP
  | _, _, .non, _ => .non
  | _, _, .bl b, _ => .bl b
  | _, _, .int i, _ => .int i
  | _, _, .str s z, _ => .str s
  | _, _, .lst z h k, p => .lst (SqL.of (m _ _ h)) (RepAll.dp m k p)
  | _, _, .tup z h k, p => .tup (SqT.le m h) (RepAll.dp m k p)
  | _, _, .dct z h k, p => by simp [D.plain] at p
  | _, _, .obj e h k, p => by simp [D.plain] at p
  | _, _, .fn e, p => by simp [D.plain] at p
  | _, _, .row, p => by simp [D.plain] at p
  | _, _, .mut e, p => by simp [D.plain] at p
theorem RepAll.dp {c : Ct} {r : Addr} {g : Gd} {H : Hp} (m : le g.B H) : ∀ {v : List V} {d : List D}, RepAll c r g v d → D.plains d = true → DpAll c.K H v (D.toPs d)
  | _, _, .nil, _ => .nil
  | _, _, .cons h t, p => by
    rw [D.plains, Bool.and_eq_true] at p
    exact .cons (Rep.dp m h p.1) (RepAll.dp m t p.2)
end
theorem RepAll.length {c : Ct} {r : Addr} {g : Gd} : ∀ {v : List V} {d : List D}, RepAll c r g v d → v.length = d.length
  | _, _, .nil => rfl
  | _, _, .cons _ t => by rw [List.length_cons, List.length_cons, RepAll.length t]
end Y

set_option maxRecDepth 100000
set_option maxHeartbeats 2000000
namespace Y
open PySem PySem.Spec PyProof.Rows L2

/-! ### the state -/
/-- a changing object, as data -/
inductive MO where
  | lst (xs : List D)
  | dct (kvs : List (Key × D))
  | ins (c : Str) (fs : List (Str × D))

def OwnO (c : Ct) (r : Addr) (g : Gd) (H : Hp) (p : Addr) : D → Prop
  | .lst ds => ∃ vs : List V, vs.length ≤ sizeLine ∧ H p = some (.lst vs) ∧ RepAll c r g vs ds
  | .dct ds => ∃ vs : List (Key × V), vs.length ≤ sizeLine ∧ H p = some (.dK vs) ∧ RepKV c r g vs ds
  | _ => False
def RepM (c : Ct) (r : Addr) (g : Gd) (H : Hp) (a : Addr) : MO → Prop
  | .lst ds => OwnO c r g H a (.lst ds)
  | .dct ds => OwnO c r g H a (.dct ds)
  | .ins x ds => ∃ (C dx : Addr) (vs : List (Str × V)), c.mg x = some (.ref C) ∧ H a = some (.ins C dx vs) ∧ RepF c r g vs ds

/-- an object stands there (tables apart) -/
def Old (H : Hp) (p : Addr) : Prop := ∃ o, H p = some o ∧ ∀ ps, o ≠ .tbl ps
theorem old_none {H : Hp} {p : Addr} (h : H p = none) : ¬ Old H p := fun ⟨o, e, _⟩ => by rw [h] at e; cases e
theorem old_upd {H : Hp} {p q : Addr} {ob : HO} (nt : ∀ ps, ob ≠ .tbl ps) (h : Old H q) : Old (upd H p ob) q := by
  by_cases z : q = p
  · subst z; exact ⟨ob, upd_same, nt⟩
  · obtain ⟨o, e, n⟩ := h
    exact ⟨o, by rw [upd_ne z]; exact e, n⟩
structure Ok (c : Ct) (v : Vo) (g : Gd) (H : Hp) (W : List MO) : Prop where
  bh : le g.B H
  bv : ∀ p, v.vol p → g.B p = none
  ba : ∀ p, p ∈ g.al → g.B p = none ∧ ¬ v.vol p
  ri : v.RI H
  len : g.al.length = W.length
  nd : g.al.Nodup
  wo : ∀ (i : Nat) (a : Addr) (o : MO), g.al[i]? = some a → W[i]? = some o → RepM c v.rw g H a o
  vk : v.K = c.K ∧ v.T = lamT c.K
  bt : ∀ p ps, g.B p ≠ some (.tbl ps)

/-- what a piece of a def does to the heap -/
structure Gr (v : Vo) (g : Gd) (H : Hp) (g' : Gd) (H' : Hp) : Prop where
  le : GLe g g'
  h : ∀ p o, H p = some o → (∀ ps, o ≠ .tbl ps) → ¬ v.vol p → p ∉ g.al → H' p = some o
  n : ∀ p, g.B p = none → Old H p → g'.B p = none
  na : ∀ p, p ∈ g'.al → p ∈ g.al ∨ ¬ Old H p
  dom : ∀ p, Old H p → Old H' p

theorem Gr.refl (v : Vo) (g : Gd) (H : Hp) : Gr v g H g H := ⟨GLe.refl g, fun _ _ h _ _ _ => h, fun _ h _ => h, fun _ h => .inl h, fun _ h => h⟩
theorem Gr.trans {v : Vo} {g g1 g2 : Gd} {H H1 H2 : Hp} (a : Gr v g H g1 H1) (b : Gr v g1 H1 g2 H2) : Gr v g H g2 H2 where
  le := a.le.trans b.le
  h := fun p o e nt nv na => b.h p o (a.h p o e nt nv na) nt nv fun z => (a.na p z).elim na fun q => q ⟨o, e, nt⟩
  n := fun p e h => b.n p (a.n p e h) (a.dom p h)
  na := fun p z => by
    rcases b.na p z with q | q
    · exact a.na p q
    · exact .inr fun w => q (a.dom p w)
  dom := fun p h => b.dom p (a.dom p h)

theorem Gr.hL {v : Vo} {g g' : Gd} {H H' : Hp} (m : Gr v g H g' H') {p : Addr} {vs : List V} (e : H p = some (.lst vs)) (nv : ¬ v.vol p) (na : p ∉ g.al) : H' p = some (.lst vs) := m.h p _ e (fun _ h => by cases h) nv na
theorem Ok.alH {c : Ct} {v : Vo} {g : Gd} {H : Hp} {W : List MO} (o : Ok c v g H W) : ∀ p, p ∈ g.al → H p ≠ none := fun p hp => by
  obtain ⟨i, hi, e⟩ := List.mem_iff_getElem.mp hp
  have e1 : g.al[i]? = some p := by rw [List.getElem?_eq_getElem hi, e]
  have hw : i < W.length := by rw [← o.len]; exact hi
  have q := o.wo i p W[i] e1 (List.getElem?_eq_getElem hw)
  cases h : W[i] with
  | lst ds =>
    rw [h] at q
    obtain ⟨vs, _, q, _⟩ := q
    rw [q]; simp
  | dct ds =>
    rw [h] at q
    obtain ⟨vs, _, q, _⟩ := q
    rw [q]; simp
  | ins x ds =>
    rw [h] at q
    obtain ⟨C, dx, vs, _, q, _⟩ := q
    rw [q]; simp

/-- a local list or dict of the def's own -/
def Own (c : Ct) (v : Vo) (g : Gd) (H : Hp) (u : V) (d : D) : Prop := ∃ p, u = .ref p ∧ g.B p = none ∧ p ∉ g.al ∧ ¬ v.vol p ∧ OwnO c v.rw g H p d
def Wk (c : Ct) (v : Vo) (g : Gd) (H : Hp) (u : V) (d : D) : Prop := Rep c v.rw g u d ∨ Own c v g H u d

theorem OwnO.mono {c : Ct} {r : Addr} {g g' : Gd} {H H' : Hp} {p : Addr} (m : GLe g g') (h : ∀ o, H p = some o → H' p = some o) : ∀ {d : D}, OwnO c r g H p d → OwnO c r g' H' p d
  | .lst _, ⟨vs, z, e, k⟩ => ⟨vs, z, h _ e, RepAll.mono m k⟩
  | .dct _, ⟨vs, z, e, k⟩ => ⟨vs, z, h _ e, RepKV.mono m k⟩
  | .non, h => h.elim
  | .bl _, h => h.elim
  | .int _, h => h.elim
  | .str _, h => h.elim
  | .tup _, h => h.elim
  | .obj _ _, h => h.elim
  | .fn _, h => h.elim
  | .row, h => h.elim
  | .mut _, h => h.elim
theorem OwnO.there {c : Ct} {r : Addr} {g : Gd} {H : Hp} {p : Addr} : ∀ {d : D}, OwnO c r g H p d → ∃ o, H p = some o ∧ ¬ Fx o ∧ ∀ ps, o ≠ .tbl ps
  | .lst _, ⟨vs, z, e, k⟩ => ⟨_, e, id, fun _ h => by cases h⟩
  | .dct _, ⟨vs, z, e, k⟩ => ⟨_, e, id, fun _ h => by cases h⟩
  | .non, h => h.elim
  | .bl _, h => h.elim
  | .int _, h => h.elim
  | .str _, h => h.elim
  | .tup _, h => h.elim
  | .obj _ _, h => h.elim
  | .fn _, h => h.elim
  | .row, h => h.elim
  | .mut _, h => h.elim
theorem OwnO.old {c : Ct} {r : Addr} {g : Gd} {H : Hp} {p : Addr} {d : D} (h : OwnO c r g H p d) : Old H p := let ⟨o, e, _, n⟩ := h.there; ⟨o, e, n⟩
theorem Own.mono {c : Ct} {v : Vo} {g g' : Gd} {H H' : Hp} {u : V} {d : D} (m : Gr v g H g' H') : Own c v g H u d → Own c v g' H' u d := fun ⟨p, e, b, a, nv, o⟩ => by
  obtain ⟨ob, q, _, nt⟩ := o.there
  have old := o.old
  exact ⟨p, e, m.n p b old, fun z => (m.na p z).elim a fun w => w old, nv, o.mono m.le fun o1 e1 => m.h p o1 e1 (by rw [q] at e1; cases e1; exact nt) nv a⟩
theorem Wk.mono {c : Ct} {v : Vo} {g g' : Gd} {H H' : Hp} {u : V} {d : D} (m : Gr v g H g' H') : Wk c v g H u d → Wk c v g' H' u d
  | .inl h => .inl (h.mono m.le)
  | .inr h => .inr (h.mono m)

inductive Sl where
  | no
  | v (d : D)
  | o (d : D)
abbrev Env := List Sl
def SlOk (c : Ct) (v : Vo) (g : Gd) (H : Hp) (x : Option (Option V)) : Sl → Prop
  | .no => True
  | .v d => ∃ u, x = some (some u) ∧ Rep c v.rw g u d
  | .o d => ∃ u, x = some (some u) ∧ Own c v g H u d
structure EnvOk (c : Ct) (v : Vo) (g : Gd) (H : Hp) (σ : L2.St) (env : Env) : Prop where
  len : σ.length = env.length
  sl : ∀ (i : Nat) (s : Sl), env[i]? = some s → SlOk c v g H σ[i]? s
  ap : ∀ (i j : Nat) (d e : D) (u : V), env[i]? = some (.o d) → env[j]? = some (.o e) → σ[i]? = some (some u) → σ[j]? = some (some u) → i = j
theorem SlOk.mono {c : Ct} {v : Vo} {g g' : Gd} {H H' : Hp} {x : Option (Option V)} (m : Gr v g H g' H') : ∀ {s : Sl}, SlOk c v g H x s → SlOk c v g' H' x s
  | .no, _ => True.intro
  | .v _, ⟨u, e, r⟩ => ⟨u, e, r.mono m.le⟩
  | .o _, ⟨u, e, r⟩ => ⟨u, e, r.mono m⟩
theorem EnvOk.mono {c : Ct} {v : Vo} {g g' : Gd} {H H' : Hp} {σ : L2.St} {env : Env} (m : Gr v g H g' H') (e : EnvOk c v g H σ env) : EnvOk c v g' H' σ env :=
  ⟨e.len, fun i s q => (e.sl i s q).mono m, e.ap⟩

/-! ### the semantics' monad: a predicate transformer over the changing objects -/
structure Exn where
  cls : Str
  fs : List (Str × D)
abbrev M (α : Type) := List MO → (α → List MO → Prop) → (Exn → List MO → Prop) → Prop
def ret {α : Type} (a : α) : M α := fun W R _ => R a W
def bnd {α β : Type} (m : M α) (f : α → M β) : M β := fun W R E => m W (fun a W' => f a W' R E) E
def fail {α : Type} : M α := fun _ _ _ => False
/-- where p is asked -/
def ask {α : Type} (p : Prop) (m : M α) : M α := fun W R E => p ∧ m W R E

/-! ### kinds of results -/
inductive Kd where
  | st | wk | fr | fk
def RepK (c : Ct) (v : Vo) (k : Kd) (H : Hp) (g' : Gd) (H' : Hp) (u : V) (d : D) : Prop := match k with
  | .st => Rep c v.rw g' u d
  | .wk => Wk c v g' H' u d
  | .fr => (Own c v g' H' u d ∧ ∀ p, u = .ref p → ¬ Old H p) ∧ ∃ ds, d = .lst ds
  | .fk => (Own c v g' H' u d ∧ ∀ p, u = .ref p → ¬ Old H p) ∧ ∃ ds, d = .dct ds
def RepX (c : Ct) (v : Vo) (g : Gd) (H : Hp) (cls : Value) (d : Option Addr) (x : Exn) : Prop :=
  ∃ (C dx : Addr) (vs : List (Str × V)), c.mg x.cls = some (.ref C) ∧ cls = .ref C ∧ d = some dx ∧ H dx = some (.xd vs) ∧ RepF c v.rw g vs x.fs
def XW (c : Ct) (v : Vo) (g : Gd) (H : Hp) (E : XK) (ER : Exn → List MO → Prop) : Prop :=
  ∀ x W' g' H' cls d, ER x W' → Gr v g H g' H' → Ok c v g' H' W' → RepX c v g' H' cls d x → E cls d H'
theorem XW.mv {c : Ct} {v : Vo} {g g1 : Gd} {H H1 : Hp} {E : XK} {ER : Exn → List MO → Prop} (m : Gr v g H g1 H1) (x : XW c v g H E ER) : XW c v g1 H1 E ER :=
  fun y W' g' H' cls d e m' o r => x y W' g' H' cls d e (m.trans m') o r
theorem XW.no {c : Ct} {v : Vo} {g : Gd} {H : Hp} {E : XK} : XW c v g H E fun _ _ => False := fun _ _ _ _ _ _ e => e.elim
def Cont (c : Ct) (v : Vo) (k : Kd) (g : Gd) (H : Hp) (R : D → List MO → Prop) (Q : VK) : Prop :=
  ∀ u d g' H' W', R d W' → Gr v g H g' H' → Ok c v g' H' W' → RepK c v k H g' H' u d → Q u H'
theorem RepK.mv {c : Ct} {v : Vo} {k : Kd} {g g1 g' : Gd} {H H1 H' : Hp} {u : V} {d : D} (m : Gr v g H g1 H1) : RepK c v k H1 g' H' u d → RepK c v k H g' H' u d := match k with
  | .st => fun h => h
  | .wk => fun h => h
  | .fr => fun ⟨⟨h, n⟩, l⟩ => ⟨⟨h, fun p e q => n p e (m.dom p q)⟩, l⟩
  | .fk => fun ⟨⟨h, n⟩, l⟩ => ⟨⟨h, fun p e q => n p e (m.dom p q)⟩, l⟩
theorem Cont.mv {c : Ct} {v : Vo} {k : Kd} {g g1 : Gd} {H H1 : Hp} {R : D → List MO → Prop} {Q : VK} (m : Gr v g H g1 H1) (q : Cont c v k g H R Q) : Cont c v k g1 H1 R Q :=
  fun u d g' H' W' r m' o h => q u d g' H' W' r (m.trans m') o (h.mv m)
/-- a tests' continuation -/
def ContB (c : Ct) (v : Vo) (g : Gd) (H : Hp) (R : Bool → List MO → Prop) (Q : Bool → Hp → Prop) : Prop :=
  ∀ b g' H' W', R b W' → Gr v g H g' H' → Ok c v g' H' W' → Q b H'
theorem ContB.mv {c : Ct} {v : Vo} {g g1 : Gd} {H H1 : Hp} {R : Bool → List MO → Prop} {Q : Bool → Hp → Prop} (m : Gr v g H g1 H1) (q : ContB c v g H R Q) : ContB c v g1 H1 R Q :=
  fun b g' H' W' r m' o => q b g' H' W' r (m.trans m') o
/-- arguments -/
def WkAll (c : Ct) (v : Vo) (g : Gd) (H : Hp) : List V → List D → Prop
  | [], [] => True
  | u :: us, d :: ds => Wk c v g H u d ∧ WkAll c v g H us ds
  | _, _ => False
def RepKs (c : Ct) (v : Vo) (k : Kd) (g' : Gd) (H' : Hp) (us : List V) (ds : List D) : Prop := match k with
  | .st => RepAll c v.rw g' us ds
  | .wk => WkAll c v g' H' us ds
  | _ => False
def ContA (c : Ct) (v : Vo) (k : Kd) (n : Option Nat) (g : Gd) (H : Hp) (R : List D → List MO → Prop) (Q : List V → Hp → Prop) : Prop :=
  ∀ us ds g' H' W', R ds W' → Gr v g H g' H' → Ok c v g' H' W' → RepKs c v k g' H' us ds → (∀ m, n = some m → us.length = m) → Q us H'
theorem ContA.mv {c : Ct} {v : Vo} {k : Kd} {n : Option Nat} {g g1 : Gd} {H H1 : Hp} {R : List D → List MO → Prop} {Q : List V → Hp → Prop} (m : Gr v g H g1 H1) (q : ContA c v k n g H R Q) : ContA c v k n g1 H1 R Q :=
  fun u d g' H' W' r m' o h l => q u d g' H' W' r (m.trans m') o h l

/-! ### readings -/
def tD (c : Ct) (E : XK) (k : Kd) (f : Env → M D) : TE := fun σ H Q => ∃ v g env W R ER, Ok c v g H W ∧ EnvOk c v g H σ env ∧ f env W R ER ∧ XW c v g H E ER ∧ Cont c v k g H R Q
def tB (c : Ct) (E : XK) (f : Env → M Bool) : TT := fun σ H Q => ∃ v g env W R ER, Ok c v g H W ∧ EnvOk c v g H σ env ∧ f env W R ER ∧ XW c v g H E ER ∧ ContB c v g H R Q
def tL (c : Ct) (E : XK) (k : Kd) (n : Option Nat) (f : Env → M (List D)) : TA := fun σ H Q => ∃ v g env W R ER, Ok c v g H W ∧ EnvOk c v g H σ env ∧ f env W R ER ∧ XW c v g H E ER ∧ ContA c v k n g H R Q

abbrev Cx.ct (X : Cx) : Ct := ⟨X.K, X.mg⟩
/-- what a def's body may lean on -/
structure Gx (X : Cx) (E : XK) : Prop where
  calm : X.calm = true
  nd : X.N.Nodup
  hu : X.A.units + 100 < cLine
  tk : Takes X fun cls d _ H => E cls d H
  po : PassesOwn (model X.prog X.w) X.A X.env X.xe
theorem Gx.pa {X : Cx} {E : XK} (G : Gx X E) : Passes (L2.CX X.prog X.w) X E := passes_call G.tk fun _ _ _ _ h => h

structure JE (X : Cx) (E : XK) (k : Kd) (e : Expr) (f : Env → M D) : Prop where
  pe : PE X e (tD (Cx.ct X) E k f)
structure JT (X : Cx) (E : XK) (e : Expr) (f : Env → M Bool) : Prop where
  pt : PT X e (tB (Cx.ct X) E f)
structure JA (X : Cx) (E : XK) (k : Kd) (n : Option Nat) (es : List Expr) (f : Env → M (List D)) : Prop where
  pa : PA X es (tL (Cx.ct X) E k n f)

theorem _root_.L2.PE.imp {X : Cx} {e : Expr} {t t' : TE} (h : PE X e t) (k : ∀ σ H Q, t' σ H Q → t σ H Q) : PE X e t' := ⟨fun pins s σ H Q I q => h.run pins s σ H Q I (k σ H Q q)⟩
theorem _root_.L2.PT.imp {X : Cx} {e : Expr} {t t' : TT} (h : PT X e t) (k : ∀ σ H Q, t' σ H Q → t σ H Q) : PT X e t' := ⟨fun pins s σ H Q I q => h.run pins s σ H Q I (k σ H Q q)⟩
theorem _root_.L2.PA.imp {X : Cx} {e : List Expr} {t t' : TA} (h : PA X e t) (k : ∀ σ H Q, t' σ H Q → t σ H Q) : PA X e t' := ⟨fun pos pins s σ H Q I q => h.run pos pins s σ H Q I (k σ H Q q)⟩
theorem _root_.L2.PS.imp {X : Cx} {e : Stmt} {t t' : TS} (h : PS X e t) (k : ∀ D σ H, t' D σ H → t D σ H) : PS X e t' := ⟨fun pins s σ H D I q => h.run pins s σ H D I (k D σ H q)⟩
theorem _root_.L2.PSs.imp {X : Cx} {e : List Stmt} {t t' : TS} (h : PSs X e t) (k : ∀ D σ H, t' D σ H → t D σ H) : PSs X e t' := ⟨fun pins s σ H D I q => h.run pins s σ H D I (k D σ H q)⟩

/-! ### changes of the state -/
section
variable {c : Ct} {v : Vo} {g : Gd} {H : Hp} {W : List MO}
theorem Ok.newp (o : Ok c v g H W) {p : Addr} (hp : H p = none) : g.B p = none ∧ p ∉ g.al ∧ ¬ v.vol p := by
  refine ⟨?_, fun z => o.alH p z hp, fun z => v.ne H p o.ri z hp⟩
  cases q : g.B p with
  | none => rfl
  | some x =>
    have := o.bh p x q
    rw [hp] at this
    cases this
theorem RepM.mono {r : Addr} {g' : Gd} {H' : Hp} {a : Addr} (m : GLe g g') (h : ∀ o, H a = some o → H' a = some o) : ∀ {x : MO}, RepM c r g H a x → RepM c r g' H' a x
  | .lst ds, k => OwnO.mono (d := .lst ds) m h k
  | .dct ds, k => OwnO.mono (d := .dct ds) m h k
  | .ins _ _, ⟨C, dx, vs, e, q, k⟩ => ⟨C, dx, vs, e, h _ q, RepF.mono m k⟩
/-- a new object, not yet of the ground -/
theorem Ok.alloc (o : Ok c v g H W) {p : Addr} (hp : H p = none) (ob : HO) (nt : ∀ ps, ob ≠ .tbl ps := by intro _ h; cases h) : Ok c v g (upd H p ob) W ∧ Gr v g H g (upd H p ob) := by
  obtain ⟨h1, h2, h3⟩ := o.newp hp
  have old : ∀ q u, H q = some u → upd H p ob q = some u := fun q u e => by rw [upd_ne (ne_of_none e hp)]; exact e
  refine ⟨⟨fun q u e => old q u (o.bh q u e), o.bv, o.ba, v.st H _ o.ri (fun q hq => ?_) (fun q u _ e => old q u e), o.len, o.nd, fun i a x ea ex => (o.wo i a x ea ex).mono (GLe.refl g) fun u e => old a u e, o.vk, o.bt⟩,
    GLe.refl g, fun q u e _ _ _ => old q u e, fun q e _ => e, fun q z => .inl z, fun q z => old_upd nt z⟩
  have : q ≠ p := fun z => h3 (z ▸ hq)
  rw [upd_ne this]
/-- an object of the def's own becomes ground: told from the state (g0, H0) ahead of it -/
theorem Ok.freeze (o : Ok c v g H W) {g0 : Gd} {H0 : Hp} (m : Gr v g0 H0 g H) {p : Addr} {ob : HO} (e : H p = some ob) (hB : g.B p = none) (ha : p ∉ g.al) (hv : ¬ v.vol p) (h0 : ¬ Old H0 p) (nt : ∀ ps, ob ≠ .tbl ps := by intro _ h; cases h) :
    Ok c v ⟨upd g.B p ob, g.al⟩ H W ∧ Gr v g0 H0 ⟨upd g.B p ob, g.al⟩ H ∧ GLe g ⟨upd g.B p ob, g.al⟩ := by
  have old : le g.B (upd g.B p ob) := fun q u x => by rw [upd_ne (ne_of_none x hB)]; exact x
  have gl : GLe g ⟨upd g.B p ob, g.al⟩ := ⟨old, fun _ _ x => x⟩
  refine ⟨⟨fun q u x => ?_, fun q hq => ?_, fun q hq => ⟨?_, (o.ba q hq).2⟩, o.ri, o.len, o.nd, fun i a x ea ex => (o.wo i a x ea ex).mono gl fun _ z => z, o.vk, fun q ps => ?_⟩, ⟨m.le.trans gl, m.h, fun q x z => ?_, m.na, m.dom⟩, gl⟩
  · have x : upd g.B p ob q = some u := x
    by_cases z : q = p
    · subst z
      rw [upd_same] at x
      cases x
      exact e
    · rw [upd_ne z] at x
      exact o.bh q u x
  · show upd g.B p ob q = none
    rw [upd_ne (show q ≠ p from fun z => hv (by rw [← z]; exact hq))]
    exact o.bv q hq
  · show upd g.B p ob q = none
    rw [upd_ne (show q ≠ p from fun z => ha (by rw [← z]; exact hq))]
    exact (o.ba q hq).1
  · show upd g.B p ob q ≠ _
    by_cases z : q = p
    · subst z
      rw [upd_same]
      exact fun w => nt ps (Option.some.inj w)
    · rw [upd_ne z]
      exact o.bt q ps
  · show upd g.B p ob q = none
    rw [upd_ne (show q ≠ p from fun w => h0 (by rw [← w]; exact z))]
    exact m.n q x z
end
theorem Rep.wk {c : Ct} {v : Vo} {g : Gd} {H : Hp} {u : V} {d : D} (h : Rep c v.rw g u d) : Wk c v g H u d := .inl h
theorem RepAll.wk {c : Ct} {v : Vo} {g : Gd} {H : Hp} : ∀ {us : List V} {ds : List D}, RepAll c v.rw g us ds → WkAll c v g H us ds
  | _, _, .nil => True.intro
  | _, _, .cons h t => ⟨.inl h, t.wk⟩
theorem WkAll.mono {c : Ct} {v : Vo} {g g' : Gd} {H H' : Hp} (m : Gr v g H g' H') : ∀ {us : List V} {ds : List D}, WkAll c v g H us ds → WkAll c v g' H' us ds
  | [], [], _ => True.intro
  | _ :: _, _ :: _, h => ⟨h.1.mono m, WkAll.mono m h.2⟩
  | [], _ :: _, h => h.elim
  | _ :: _, [], h => h.elim

section
variable {c : Ct} {v : Vo} {g : Gd} {H : Hp} {W : List MO} {R : D → List MO → Prop} {Q : VK}
/-- a value without a new object -/
theorem Cont.now (q : Cont c v .st g H R Q) (o : Ok c v g H W) {u : V} {d : D} (r : R d W) (h : Rep c v.rw g u d) : Q u H := q u d g H W r (Gr.refl v g H) o h
/-- a new tuple -/
theorem Cont.newT (q : Cont c v .st g H R Q) (o : Ok c v g H W) {us : List V} {ds : List D} (r : R (.tup ds) W) (z : us.length ≤ sizeLine) (h : RepAll c v.rw g us ds) : ∀ p, H p = none → Q (.ref p) (upd H p (.tup us)) := fun p hp => by
  obtain ⟨h1, h2, h3⟩ := o.newp hp
  obtain ⟨o1, m1⟩ := o.alloc hp (.tup us)
  obtain ⟨o2, m2, gl⟩ := o1.freeze m1 (upd_same) h1 h2 h3 (old_none hp)
  exact q _ _ _ _ _ r m2 o2 (.tup z (SqT.of (upd_same)) (h.mono gl))
/-- a new list -/
theorem Cont.newL (q : Cont c v .fr g H R Q) (o : Ok c v g H W) {us : List V} {ds : List D} (r : R (.lst ds) W) (z : us.length ≤ sizeLine) (h : RepAll c v.rw g us ds) : ∀ p, H p = none → Q (.ref p) (upd H p (.lst us)) := fun p hp => by
  obtain ⟨h1, h2, h3⟩ := o.newp hp
  obtain ⟨o1, m1⟩ := o.alloc hp (.lst us)
  exact q _ _ _ _ _ r m1 o1 ⟨⟨⟨p, rfl, h1, h2, h3, us, z, upd_same, h⟩, fun p' e => by cases e; exact old_none hp⟩, _, rfl⟩
/-- a new dict -/
theorem Cont.newK (q : Cont c v .fk g H R Q) (o : Ok c v g H W) {us : List (Key × V)} {ds : List (Key × D)} (r : R (.dct ds) W) (z : us.length ≤ sizeLine) (h : RepKV c v.rw g us ds) : ∀ p, H p = none → Q (.ref p) (upd H p (.dK us)) := fun p hp => by
  obtain ⟨h1, h2, h3⟩ := o.newp hp
  obtain ⟨o1, m1⟩ := o.alloc hp (.dK us)
  exact q _ _ _ _ _ r m1 o1 ⟨⟨⟨p, rfl, h1, h2, h3, us, z, upd_same, h⟩, fun p' e => by cases e; exact old_none hp⟩, _, rfl⟩
theorem Own.toSt {g0 : Gd} {H0 : Hp} (m : Gr v g0 H0 g H) (o : Ok c v g H W) {u : V} {ds : List D} (w : Own c v g H u (.lst ds)) (n : ∀ p, u = .ref p → ¬ Old H0 p) :
    ∃ g', Ok c v g' H W ∧ Gr v g0 H0 g' H ∧ GLe g g' ∧ Rep c v.rw g' u (.lst ds) ∧ (∀ q, u ≠ .ref q → g'.B q = g.B q) ∧ g'.al = g.al := by
  obtain ⟨p, rfl, hB, ha, hv, w⟩ := w
  obtain ⟨ob, e, _, nt⟩ := w.there
  obtain ⟨o2, m2, gl⟩ := o.freeze m e hB ha hv (n p rfl) nt
  refine ⟨_, o2, m2, gl, ?_, fun q hq => ?_, rfl⟩
  · obtain ⟨vs, z, e', k⟩ := w
    rw [e] at e'
    cases e'
    exact .lst z upd_same (k.mono gl)
  · show upd g.B p ob q = g.B q
    exact upd_ne fun z => hq (by rw [z])
/-- a fresh list may be taken as strong -/
theorem Cont.frOf (q : Cont c v .st g H R Q) : Cont c v .fr g H R Q := fun u d g' H' W' r m o ⟨⟨w, n⟩, ds, e⟩ => by
  subst e
  obtain ⟨g2, o2, m2, gl, h, _⟩ := w.toSt m o n
  exact q u _ g2 H' W' r m2 o2 h
theorem Cont.stOf (q : Cont c v .wk g H R Q) : Cont c v .st g H R Q := fun u d g' H' W' r m o h => q u d g' H' W' r m o (.inl h)
end
theorem JE.frSt {X : Cx} {E : XK} {e : Expr} {f : Env → M D} (h : JE X E .fr e f) : JE X E .st e f := ⟨h.pe.imp fun _ _ _ ⟨v, g, env, W, R, ER, o, eo, hf, x, q⟩ => ⟨v, g, env, W, R, ER, o, eo, hf, x, q.frOf⟩⟩
theorem JE.stWk {X : Cx} {E : XK} {e : Expr} {f : Env → M D} (h : JE X E .st e f) : JE X E .wk e f := ⟨h.pe.imp fun _ _ _ ⟨v, g, env, W, R, ER, o, eo, hf, x, q⟩ => ⟨v, g, env, W, R, ER, o, eo, hf, x, q.stOf⟩⟩
/-- a thing of one's own is locked: it becomes ground -/
theorem Ok.lockd {c : Ct} {v : Vo} {g : Gd} {H : Hp} {W : List MO} (o : Ok c v g H W) {g0 : Gd} {H0 : Hp} (m : Gr v g0 H0 g H) {p : Addr} {kvs : List (Key × V)} (e : H p = some (.dK kvs)) (hB : g.B p = none) (ha : p ∉ g.al) (hv : ¬ v.vol p) (h0 : ¬ Old H0 p) (od : Obj) :
    Ok c v ⟨upd g.B p (.frz od (.dK kvs)), g.al⟩ (upd H p (.frz od (.dK kvs))) W ∧ Gr v g0 H0 ⟨upd g.B p (.frz od (.dK kvs)), g.al⟩ (upd H p (.frz od (.dK kvs))) ∧ GLe g ⟨upd g.B p (.frz od (.dK kvs)), g.al⟩ := by
  have old : le g.B (upd g.B p (.frz od (.dK kvs))) := fun q u x => by rw [upd_ne (ne_of_none x hB)]; exact x
  have gl : GLe g ⟨upd g.B p (.frz od (.dK kvs)), g.al⟩ := ⟨old, fun _ _ x => x⟩
  have sm : ∀ q, q ≠ p → upd H p (.frz od (.dK kvs)) q = H q := fun q hq => upd_ne hq
  refine ⟨⟨fun q u x => ?_, fun q hq => ?_, fun q hq => ⟨?_, (o.ba q hq).2⟩, ?_, o.len, o.nd, fun i a x ea ex => (o.wo i a x ea ex).mono gl fun ob z => ?_, o.vk, fun q ps => ?_⟩, ⟨m.le.trans gl, fun q ob x nt nv na => ?_, fun q x z => ?_, m.na, fun q z => old_upd (fun ps h => by cases h) (m.dom q z)⟩, gl⟩
  · have x : upd g.B p (.frz od (.dK kvs)) q = some u := x
    by_cases z : q = p
    · subst z
      rw [upd_same] at x
      cases x
      exact upd_same
    · rw [upd_ne z] at x
      rw [sm q z]
      exact o.bh q u x
  · show upd g.B p (.frz od (.dK kvs)) q = none
    rw [upd_ne (show q ≠ p from fun z => hv (by rw [← z]; exact hq))]
    exact o.bv q hq
  · show upd g.B p (.frz od (.dK kvs)) q = none
    rw [upd_ne (show q ≠ p from fun z => ha (by rw [← z]; exact hq))]
    exact (o.ba q hq).1
  · refine v.st H _ o.ri (fun q hq => sm q fun z => hv (by rw [← z]; exact hq)) fun q ob f x => ?_
    rw [sm q fun z => ?_]
    · exact x
    · subst z
      rw [e] at x
      cases x
      exact f
  · rw [sm a fun z => ha (by rw [← z]; exact List.mem_of_getElem? ea)]
    exact z
  · show upd g.B p (.frz od (.dK kvs)) q ≠ _
    by_cases z : q = p
    · subst z
      rw [upd_same]
      exact fun w => by cases w
    · rw [upd_ne z]
      exact o.bt q ps
  · rw [sm q fun z => h0 (by rw [← z]; exact ⟨ob, x, nt⟩)]
    exact m.h q ob x nt nv na
  · show upd g.B p (.frz od (.dK kvs)) q = none
    rw [upd_ne (show q ≠ p from fun w => h0 (by rw [← w]; exact z))]
    exact m.n q x z
/-- a fresh dict, locked, is strong -/
theorem JE.fkSt {X : Cx} {E : XK} {e : Expr} {f : Env → M D} (h : JE X E .fk e f) : JE X E .st e f := ⟨⟨fun pins s σ H Q I ⟨v, g, env, W, R, ER, o, eo, hf, x, q⟩ => by
  refine thn (h.pe.run pins s σ H (fun u H1 => ∃ p kvs, u = .ref p ∧ H1 p = some (.dK kvs) ∧ ∀ od, Q u (upd H1 p (.frz od (.dK kvs)))) I ⟨v, g, env, W, R, ER, o, eo, hf, x, fun u d g' H' W' r m' o' ⟨⟨w, n⟩, ds, ed⟩ => ?_⟩) fun u s1 ⟨y, H1, I1, ry, p, kvs, ey, ep, hq⟩ => ?_
  · subst ed
    obtain ⟨p, eu, hB, ha, hv, us, z, ep, k⟩ := w
    refine ⟨p, us, eu, ep, fun od => ?_⟩
    obtain ⟨o2, m2, gl⟩ := o'.lockd m' ep hB ha hv (n p eu) od
    exact q u _ _ _ W' r m2 o2 (by subst eu; exact .dct z upd_same (k.mono gl))
  · obtain ⟨od, I2⟩ := I1.lock ep True.intro
    exact ⟨y, _, I2, ry, hq od⟩⟩⟩
theorem JE.fkWk {X : Cx} {E : XK} {e : Expr} {f : Env → M D} (h : JE X E .fk e f) : JE X E .wk e f := h.fkSt.stWk
theorem JE.frWk {X : Cx} {E : XK} {e : Expr} {f : Env → M D} (h : JE X E .fr e f) : JE X E .wk e f := h.frSt.stWk
end Y

set_option maxRecDepth 100000
set_option maxHeartbeats 2000000
namespace Y
open PySem PySem.Spec PyProof.Rows L2

/-! ### data that can be compared: plain, not deep, proper signs -/
mutual
def D.okd : Nat → D → Bool
  | _, .non => true
  | _, .bl _ => true
  | _, .int _ => true
  | _, .str s => PyData.strOk s
  | n, .lst xs => decide (0 < n) && D.okds (n - 1) xs
  | n, .tup xs => decide (0 < n) && D.okds (n - 1) xs
  | _, _ => false
def D.okds : Nat → List D → Bool
  | _, [] => true
  | n, x :: xs => D.okd n x && D.okds n xs
end
theorem D.okds_eq (n : Nat) : ∀ xs : List D, D.okds n xs = xs.all (D.okd n)
  | [] => rfl
  | x :: xs => by rw [D.okds, List.all_cons, D.okds_eq n xs]
mutual
theorem D.okd_plain : ∀ (n : Nat) (d : D), d.okd n = true → d.plain = true
  | _, .non, _ => rfl
  | _, .bl _, _ => rfl
  | _, .int _, _ => rfl
  | _, .str _, _ => rfl
  | n, .lst xs, h => by
    rw [D.okd, Bool.and_eq_true] at h
    exact D.okds_plain (n - 1) xs h.2
  | n, .tup xs, h => by
    rw [D.okd, Bool.and_eq_true] at h
    exact D.okds_plain (n - 1) xs h.2
  | _, .dct _, h => by simp [D.okd] at h
  | _, .obj _ _, h => by simp [D.okd] at h
  | _, .fn _, h => by simp [D.okd] at h
  | _, .row, h => by simp [D.okd] at h
  | _, .mut _, h => by simp [D.okd] at h
theorem D.okds_plain : ∀ (n : Nat) (d : List D), D.okds n d = true → D.plains d = true
  | _, [], _ => rfl
  | n, x :: xs, h => by
    rw [D.okds, Bool.and_eq_true] at h
    rw [D.plains, D.okd_plain n x h.1, D.okds_plain n xs h.2]
    rfl
end
mutual
theorem D.okd_lay : ∀ (n : Nat) (d : D), d.okd n = true → PyData.canLay0 d.toP = true ∧ PyData.depth d.toP ≤ n
  | _, .non, _ => by simp [D.toP, PyData.canLay0, PyData.depth]
  | _, .bl _, _ => by simp [D.toP, PyData.canLay0, PyData.depth]
  | _, .int _, _ => by simp [D.toP, PyData.canLay0, PyData.depth]
  | _, .str _, h => by simpa [D.toP, PyData.canLay0, PyData.depth, D.okd] using h
  | n, .lst xs, h => by
    rw [D.okd, Bool.and_eq_true] at h
    obtain ⟨h1, h2⟩ := D.okds_lay (n - 1) xs h.2
    have h0 := of_decide_eq_true h.1
    simp only [D.toP, PyData.canLay0, PyData.depth]
    exact ⟨h1, by omega⟩
  | n, .tup xs, h => by
    rw [D.okd, Bool.and_eq_true] at h
    obtain ⟨h1, h2⟩ := D.okds_lay (n - 1) xs h.2
    have h0 := of_decide_eq_true h.1
    simp only [D.toP, PyData.canLay0, PyData.depth]
    exact ⟨h1, by omega⟩
  | _, .dct _, h => by simp [D.okd] at h
  | _, .obj _ _, h => by simp [D.okd] at h
  | _, .fn _, h => by simp [D.okd] at h
  | _, .row, h => by simp [D.okd] at h
  | _, .mut _, h => by simp [D.okd] at h
theorem D.okds_lay : ∀ (n : Nat) (d : List D), D.okds n d = true → PyData.canLayAll0 (D.toPs d) = true ∧ PyData.depthAll (D.toPs d) ≤ n
  | _, [], _ => by simp [D.toPs, PyData.canLayAll0, PyData.depthAll]
  | n, x :: xs, h => by
    rw [D.okds, Bool.and_eq_true] at h
    obtain ⟨a1, a2⟩ := D.okd_lay n x h.1
    obtain ⟨b1, b2⟩ := D.okds_lay n xs h.2
    simp only [D.toPs, PyData.canLayAll0, PyData.depthAll, a1, b1, Bool.and_self]
    exact ⟨trivial, by omega⟩
end
theorem D.okd_shaped {d : D} (h : d.okd 60 = true) : SeqAt.shaped d.toP = true := by
  obtain ⟨a, b⟩ := D.okd_lay 60 d h
  unfold SeqAt.shaped
  rw [a, Bool.true_and]
  exact decide_eq_true (by omega)
def D.eqb (x y : D) : Bool := PyData.eqv x.toP y.toP
def D.eqbs (x y : List D) : Bool := PyData.eqvAll (D.toPs x) (D.toPs y)

theorem Wk.dp {c : Ct} {v : Vo} {g : Gd} {H : Hp} {u : V} {d : D} (m : le g.B H) (h : Wk c v g H u d) (p : d.plain = true) : Dp c.K H u d.toP := by
  rcases h with h | ⟨q, rfl, _, _, _, w⟩
  · exact h.dp m p
  · cases d with
    | lst ds =>
      obtain ⟨vs, z, e, k⟩ := w
      exact .lst (SqL.of e) (k.dp m p)
    | dct ds => simp [D.plain] at p
    | _ => exact w.elim

/-! ### names and constants -/
def eName (i : Nat) : Env → M D := fun env => match env[i]? with
  | some (.v d) => ret d
  | _ => fail
def eOwn (i : Nat) : Env → M D := fun env => match env[i]? with
  | some (.v d) => ret d
  | some (.o d) => ret d
  | _ => fail
def eC (d : D) : Env → M D := fun _ => ret d
section
variable {X : Cx} {E : XK} {pos : Pos}
theorem je_name (i : Nat) {x : Str} (hN : X.N[i]? = some x := by rfl) (hv : Vis X.env.scope x := by first | exact Or.inl rfl | exact Or.inr (Or.inl rfl) | exact Or.inr (Or.inr rfl)) (hd : (x == ("__debug__" : Str)) = false := by decide)
    (hcd : (x == ("__classdict__" : Str)) = false := by decide) : JE X E .st (.Name x pos) (eName i) := ⟨(pe_var hN hv hd hcd).imp fun σ H Q ⟨v, g, env, W, R, ER, o, eo, hf, x, q⟩ => by
  unfold eName at hf
  cases e : env[i]? with
  | none => rw [e] at hf; exact hf.elim
  | some s =>
    rw [e] at hf
    cases s with
    | v d =>
      obtain ⟨u, e1, r⟩ := eo.sl i _ e
      exact ⟨u, e1, q.now o hf r⟩
    | no => exact hf.elim
    | o d => exact hf.elim⟩
theorem je_own (i : Nat) {x : Str} (hN : X.N[i]? = some x := by rfl) (hv : Vis X.env.scope x := by first | exact Or.inl rfl | exact Or.inr (Or.inl rfl) | exact Or.inr (Or.inr rfl)) (hd : (x == ("__debug__" : Str)) = false := by decide)
    (hcd : (x == ("__classdict__" : Str)) = false := by decide) : JE X E .wk (.Name x pos) (eOwn i) := ⟨(pe_var hN hv hd hcd).imp fun σ H Q ⟨v, g, env, W, R, ER, o, eo, hf, x, q⟩ => by
  unfold eOwn at hf
  cases e : env[i]? with
  | none => rw [e] at hf; exact hf.elim
  | some s =>
    rw [e] at hf
    cases s with
    | v d =>
      obtain ⟨u, e1, r⟩ := eo.sl i _ e
      exact ⟨u, e1, q u d g H W hf (Gr.refl v g H) o (.inl r)⟩
    | no => exact hf.elim
    | o d =>
      obtain ⟨u, e1, r⟩ := eo.sl i _ e
      exact ⟨u, e1, q u d g H W hf (Gr.refl v g H) o (.inr r)⟩⟩
theorem je_c {e : Expr} {u : V} {d : D} (h : PE X e (tC u)) (r : ∀ v g, Rep (Cx.ct X) v g u d) : JE X E .st e (eC d) := ⟨h.imp fun σ H Q ⟨v, g, env, W, R, ER, o, eo, hf, x, q⟩ => q.now o hf (r _ _)⟩
theorem je_int {i : Int} {j} : JE X E .st (.Constant (.int i) j pos) (eC (.int i)) := je_c pe_int fun _ _ => .int i
theorem je_bl {b : Bool} {j} : JE X E .st (.Constant (.bool b) j pos) (eC (.bl b)) := je_c pe_bl fun _ _ => .bl b
theorem je_non {j} : JE X E .st (.Constant .none j pos) (eC .non) := je_c pe_non fun _ _ => .non
theorem je_str {s : Str} {j} (z : s.length ≤ sizeLine := by decide) : JE X E .st (.Constant (.str s) j pos) (eC (.str s)) := je_c pe_str fun _ _ => .str s z
/-- a module's constant -/
theorem je_glob {x : Str} {u : V} {d : D} {w : Value} (hg : Gl X x) (hm : X.mg x = some w) (rv : RelV u w) (r : ∀ v g, Rep (Cx.ct X) v g u d) (hd : (x == ("__debug__" : Str)) = false := by decide) : JE X E .st (.Name x pos) (eC d) := je_c (pe_glob hg hm rv hd) r
theorem je_gint {x : Str} {i : Int} {t : Tok} (hm : X.mg x = some (.int i t)) (hg : Gl X x := by rfl) (hd : (x == ("__debug__" : Str)) = false := by decide) : JE X E .st (.Name x pos) (eC (.int i)) := je_glob (u := .int i) hg hm ⟨t, rfl⟩ (fun _ _ => .int i) hd
theorem je_gstr {x s : Str} {t : Tok} (hm : X.mg x = some (.str s t)) (z : s.length ≤ sizeLine := by decide) (hg : Gl X x := by rfl) (hd : (x == ("__debug__" : Str)) = false := by decide) : JE X E .st (.Name x pos) (eC (.str s)) := je_glob (u := .str s) hg hm ⟨t, rfl⟩ (fun _ _ => .str s z) hd
theorem je_gfn {x : Str} {f : Addr} (hm : X.mg x = some (.ref f)) (hg : Gl X x := by rfl) (hd : (x == ("__debug__" : Str)) = false := by decide) : JE X E .st (.Name x pos) (eC (.fn x)) := je_glob hg hm (u := .ref f) rfl (fun _ _ => .fn hm) hd
/-- what is never reached -/
theorem je_never {k : Kd} {e : Expr} : JE X E k e fun _ => fail := ⟨⟨fun _ _ _ _ _ _ ⟨v, g, env, W, R, ER, o, eo, hf, x, q⟩ => hf.elim⟩⟩
theorem jt_never {e : Expr} : JT X E e fun _ => fail := ⟨⟨fun _ _ _ _ _ _ ⟨v, g, env, W, R, ER, o, eo, hf, x, q⟩ => hf.elim⟩⟩
end

/-! ### operators -/
def e2 (F : D → D → M D) (fa fb : Env → M D) : Env → M D := fun env => bnd (fa env) fun x => bnd (fb env) fun y => F x y
def e1 (F : D → M D) (fa : Env → M D) : Env → M D := fun env => bnd (fa env) F
/-- an operation's values agree with F -/
def Op2 (c : Ct) (k : Kd) (r : R2) (F : D → D → M D) : Prop :=
  ∀ (v : Vo) (g : Gd) (H : Hp) (W : List MO) (R : D → List MO → Prop) (ER : Exn → List MO → Prop) (Q : VK) (u w : V) (x y : D), Ok c v g H W → Wk c v g H u x → Wk c v g H w y → F x y W R ER → Cont c v k g H R Q → r u w H Q
def Op1 (c : Ct) (k : Kd) (r : V → Hp → VK → Prop) (F : D → M D) : Prop :=
  ∀ (v : Vo) (g : Gd) (H : Hp) (W : List MO) (R : D → List MO → Prop) (ER : Exn → List MO → Prop) (Q : VK) (u : V) (x : D), Ok c v g H W → Wk c v g H u x → F x W R ER → Cont c v k g H R Q → r u H Q
theorem tOp_of {c : Ct} {E : XK} {k : Kd} {r : R2} {F : D → D → M D} {fa fb : Env → M D} (h2 : Op2 c k r F) : ∀ σ H Q, tD c E k (e2 F fa fb) σ H Q → tOp r (tD c E .wk fa) (tD c E .wk fb) σ H Q :=
  fun σ H Q ⟨v, g, env, W, R, ER, o, eo, hf, x, q⟩ =>
    ⟨v, g, env, W, _, ER, o, eo, hf, x, fun u d g1 H1 W1 h1 m1 o1 w1 =>
      ⟨v, g1, env, W1, _, ER, o1, eo.mono m1, h1, x.mv m1, fun u2 d2 g2 H2 W2 h2' m2 o2 w2 =>
        h2 v g2 H2 W2 R ER Q u u2 d d2 o2 (Wk.mono m2 w1) w2 h2' (q.mv (m1.trans m2))⟩⟩
section
variable {X : Cx} {E : XK} {pos : Pos} {a b d : Expr} {k : Kd} {fa fb fd : Env → M D}
theorem je_op {op : Operator} {r : R2} {F : D → D → M D} (ho : OpR X (binaryOp op) r) (h2 : Op2 (Cx.ct X) k r F) (ha : JE X E .wk a fa) (hb : JE X E .wk b fb) : JE X E k (.BinOp a op b pos) (e2 F fa fb) :=
  ⟨(pe_op ho ha.pe hb.pe).imp (tOp_of h2)⟩
theorem je_cmp {op : CmpOp} {r : R2} {F : D → D → M D} (ho : OpR X (compareOp op) r) (h2 : Op2 (Cx.ct X) k r F) (ha : JE X E .wk a fa) (hb : JE X E .wk b fb) (hm : behindInMarks op b = false := by first | exact nomark _ | rfl) : JE X E k (.Compare a [op] [b] pos) (e2 F fa fb) :=
  ⟨(pe_cmpR ho ha.pe hb.pe hm).imp (tOp_of h2)⟩
/-- a value that is True or False -/
def tst (f : Env → M D) : Env → M Bool := fun env => bnd (f env) fun d => match d with
  | .bl b => ret b
  | _ => fail
theorem tTest_of {c : Ct} {E : XK} {f : Env → M D} {t : TE} (h : ∀ σ H Q, tD c E .st f σ H Q → t σ H Q) : ∀ σ H Q, tB c E (tst f) σ H Q → tTest t σ H Q := fun σ H Q ⟨v, g, env, W, R, ER, o, eo, hf, x, q⟩ => by
  refine h σ H _ ⟨v, g, env, W, _, ER, o, eo, hf, x, fun u d' g1 H1 W1 h1 m1 o1 w1 => ?_⟩
  cases d' with
  | bl z =>
    cases w1
    exact ⟨z, rfl, q z g1 H1 W1 h1 m1 o1⟩
  | _ => exact h1.elim
theorem jt_cmp {op : CmpOp} {r : R2} {F : D → D → M D} (ho : OpR X (compareOp op) r) (h2 : Op2 (Cx.ct X) .st r F) (ha : JE X E .wk a fa) (hb : JE X E .wk b fb) (hm : behindInMarks op b = false := by first | exact nomark _ | rfl) : JT X E (.Compare a [op] [b] pos) (tst (e2 F fa fb)) :=
  ⟨(pt_cmpR ho ha.pe hb.pe hm).imp (tTest_of (tOp_of h2))⟩
/-- a < b < c -/
def e3 (F F' : D → D → M D) (fa fb fc : Env → M D) : Env → M D := fun env => bnd (fa env) fun x => bnd (fb env) fun y => bnd (F x y) fun t => match t with
  | .bl true => bnd (fc env) fun z => F' y z
  | .bl false => ret (.bl false)
  | _ => fail
theorem tChain_of {c : Ct} {E : XK} {r r' : R2} {F F' : D → D → M D} (h2 : Op2 c .st r F) (h3 : Op2 c .st r' F') : ∀ σ H Q, tD c E .st (e3 F F' fa fb fd) σ H Q → tChain r r' (tD c E .wk fa) (tD c E .wk fb) (tD c E .wk fd) σ H Q :=
  fun σ H Q ⟨v, g, env, W, R, ER, o, eo, hf, x, q⟩ =>
    ⟨v, g, env, W, _, ER, o, eo, hf, x, fun u d1 g1 H1 W1 h1 m1 o1 w1 =>
      ⟨v, g1, env, W1, _, ER, o1, eo.mono m1, h1, x.mv m1, fun u2 d2 g2 H2 W2 h2' m2 o2 w2 =>
        h2 v g2 H2 W2 _ ER _ u u2 d1 d2 o2 (Wk.mono m2 w1) w2 h2' fun z t g3 H3 W3 h3' m3 o3 w3 => by
          cases t with
          | bl bb =>
            cases w3
            cases bb with
            | false =>
              refine ⟨false, rfl, ?_⟩
              rw [if_neg Bool.false_ne_true]
              exact (q.mv ((m1.trans m2).trans m3)).now o3 h3' (.bl false)
            | true =>
              refine ⟨true, rfl, ?_⟩
              rw [if_pos rfl]
              exact ⟨v, g3, env, W3, _, ER, o3, eo.mono ((m1.trans m2).trans m3), h3', x.mv ((m1.trans m2).trans m3), fun u4 d4 g4 H4 W4 h4 m4 o4 w4 =>
                h3 v g4 H4 W4 R ER Q u2 u4 d2 d4 o4 (Wk.mono (m3.trans m4) w2) w4 h4 (q.mv (((m1.trans m2).trans m3).trans m4))⟩
          | _ => exact h3'.elim⟩⟩
theorem je_chain {op op' : CmpOp} {r r' : R2} {F F' : D → D → M D} (ho : OpR X (compareOp op) r) (ho' : OpR X (compareOp op') r') (h2 : Op2 (Cx.ct X) .st r F) (h3 : Op2 (Cx.ct X) .st r' F') (ha : JE X E .wk a fa) (hb : JE X E .wk b fb) (hc : JE X E .wk d fd)
    (hm : lastMarks [op, op'] [b, d] = false := by with_unfolding_all rfl) : JE X E .st (.Compare a [op, op'] [b, d] pos) (e3 F F' fa fb fd) :=
  ⟨(pe_chain ho ho' ha.pe hb.pe hc.pe hm).imp (tChain_of h2 h3)⟩
theorem jt_chain {op op' : CmpOp} {r r' : R2} {F F' : D → D → M D} (ho : OpR X (compareOp op) r) (ho' : OpR X (compareOp op') r') (h2 : Op2 (Cx.ct X) .st r F) (h3 : Op2 (Cx.ct X) .st r' F') (ha : JE X E .wk a fa) (hb : JE X E .wk b fb) (hc : JE X E .wk d fd)
    (hm : lastMarks [op, op'] [b, d] = false := by with_unfolding_all rfl) : JT X E (.Compare a [op, op'] [b, d] pos) (tst (e3 F F' fa fb fd)) :=
  ⟨(pt_chain ho ho' ha.pe hb.pe hc.pe hm).imp (tTest_of (tChain_of h2 h3))⟩
theorem je_un {op : UnaryOp} {r : V → Hp → VK → Prop} {F : D → M D} (ho : UnR X (unaryOp op) r) (h1 : Op1 (Cx.ct X) k r F) (ha : JE X E .wk a fa) : JE X E k (.UnaryOp op a pos) (e1 F fa) :=
  ⟨(pe_un ho ha.pe).imp fun σ H Q ⟨v, g, env, W, R, ER, o, eo, hf, x, q⟩ => ⟨v, g, env, W, _, ER, o, eo, hf, x, fun u d g1 H1 W1 h1' m1 o1 w1 => h1 v g1 H1 W1 R ER Q u d o1 w1 h1' (q.mv m1)⟩⟩

/-! ### tests -/
def bAnd (fa fb : Env → M Bool) : Env → M Bool := fun env => bnd (fa env) fun b => match b with
  | true => fb env
  | false => ret false
def bOr (fa fb : Env → M Bool) : Env → M Bool := fun env => bnd (fa env) fun b => match b with
  | true => ret true
  | false => fb env
def bNot (fa : Env → M Bool) : Env → M Bool := fun env => bnd (fa env) fun b => ret (!b)
structure JW (X : Cx) (E : XK) (e : Expr) (f : Env → M Bool) : Prop where
  pw : PW X e (tB (Cx.ct X) E f)
theorem _root_.L2.PW.imp {X : Cx} {e : Expr} {t t' : TT} (h : PW X e t) (k : ∀ σ H Q, t' σ H Q → t σ H Q) : PW X e t' := ⟨fun w pins s σ H Q I q => h.run w pins s σ H Q I (k σ H Q q)⟩
variable {ta tb : Env → M Bool} {rest : List Expr}
theorem JW.jt {e : Expr} (h : JW X E e ta) : JT X E e ta := ⟨h.pw.pt⟩
theorem jw_and1 (ha : JT X E a ta) : JW X E (.BoolOp .And [a] pos) ta := ⟨pw_and1 ha.pt⟩
theorem jw_or1 (ha : JT X E a ta) : JW X E (.BoolOp .Or [a] pos) ta := ⟨pw_or1 ha.pt⟩
theorem jw_and (ha : JT X E a ta) (hb : JW X E (.BoolOp .And (b :: rest) pos) tb) : JW X E (.BoolOp .And (a :: b :: rest) pos) (bAnd ta tb) :=
  ⟨(pw_and ha.pt hb.pw).imp fun σ H Q ⟨v, g, env, W, R, ER, o, eo, hf, x, q⟩ => ⟨v, g, env, W, _, ER, o, eo, hf, x, fun bb g1 H1 W1 h1 m1 o1 => by
    cases bb with
    | true =>
      rw [if_pos rfl]
      exact ⟨v, g1, env, W1, R, ER, o1, eo.mono m1, h1, x.mv m1, q.mv m1⟩
    | false =>
      rw [if_neg Bool.false_ne_true]
      exact q false g1 H1 W1 h1 m1 o1⟩⟩
theorem jw_or (ha : JT X E a ta) (hb : JW X E (.BoolOp .Or (b :: rest) pos) tb) : JW X E (.BoolOp .Or (a :: b :: rest) pos) (bOr ta tb) :=
  ⟨(pw_or ha.pt hb.pw).imp fun σ H Q ⟨v, g, env, W, R, ER, o, eo, hf, x, q⟩ => ⟨v, g, env, W, _, ER, o, eo, hf, x, fun bb g1 H1 W1 h1 m1 o1 => by
    cases bb with
    | true =>
      rw [if_pos rfl]
      exact q true g1 H1 W1 h1 m1 o1
    | false =>
      rw [if_neg Bool.false_ne_true]
      exact ⟨v, g1, env, W1, R, ER, o1, eo.mono m1, h1, x.mv m1, q.mv m1⟩⟩⟩
theorem jt_not (ha : JT X E a ta) : JT X E (.UnaryOp .Not a pos) (bNot ta) :=
  ⟨(pt_not ha.pt).imp fun σ H Q ⟨v, g, env, W, R, ER, o, eo, hf, x, q⟩ => ⟨v, g, env, W, _, ER, o, eo, hf, x, fun bb g1 H1 W1 h1 m1 o1 => q (!bb) g1 H1 W1 h1 m1 o1⟩⟩
/-- as values -/
def vAnd (fa fb : Env → M D) : Env → M D := fun env => bnd (fa env) fun b => match b with
  | .bl true => fb env
  | .bl false => ret (.bl false)
  | _ => fail
def vOr (fa fb : Env → M D) : Env → M D := fun env => bnd (fa env) fun b => match b with
  | .bl true => ret (.bl true)
  | .bl false => fb env
  | _ => fail
def vNot (fa : Env → M D) : Env → M D := fun env => bnd (fa env) fun b => match b with
  | .bl z => ret (.bl (!z))
  | _ => fail
theorem je_one {op : BoolOp} (h : JE X E k a fa) : JE X E k (.BoolOp op [a] pos) fa := ⟨pe_one h.pe⟩
theorem je_and (ha : JE X E .st a fa) (hb : JE X E .st (.BoolOp .And (b :: rest) pos) fb) : JE X E .st (.BoolOp .And (a :: b :: rest) pos) (vAnd fa fb) :=
  ⟨(pe_and ha.pe hb.pe).imp fun σ H Q ⟨v, g, env, W, R, ER, o, eo, hf, x, q⟩ => ⟨v, g, env, W, _, ER, o, eo, hf, x, fun u d1 g1 H1 W1 h1 m1 o1 w1 => by
    cases d1 with
    | bl bb =>
      cases w1
      cases bb with
      | true =>
        refine ⟨true, rfl, ?_⟩
        rw [if_pos rfl]
        exact ⟨v, g1, env, W1, R, ER, o1, eo.mono m1, h1, x.mv m1, q.mv m1⟩
      | false =>
        refine ⟨false, rfl, ?_⟩
        rw [if_neg Bool.false_ne_true]
        exact (q.mv m1).now o1 h1 (.bl false)
    | _ => exact h1.elim⟩⟩
theorem je_or (ha : JE X E .st a fa) (hb : JE X E .st (.BoolOp .Or (b :: rest) pos) fb) : JE X E .st (.BoolOp .Or (a :: b :: rest) pos) (vOr fa fb) :=
  ⟨(pe_or ha.pe hb.pe).imp fun σ H Q ⟨v, g, env, W, R, ER, o, eo, hf, x, q⟩ => ⟨v, g, env, W, _, ER, o, eo, hf, x, fun u d1 g1 H1 W1 h1 m1 o1 w1 => by
    cases d1 with
    | bl bb =>
      cases w1
      cases bb with
      | true =>
        refine ⟨true, rfl, ?_⟩
        rw [if_pos rfl]
        exact (q.mv m1).now o1 h1 (.bl true)
      | false =>
        refine ⟨false, rfl, ?_⟩
        rw [if_neg Bool.false_ne_true]
        exact ⟨v, g1, env, W1, R, ER, o1, eo.mono m1, h1, x.mv m1, q.mv m1⟩
    | _ => exact h1.elim⟩⟩
theorem je_not (ha : JE X E .st a fa) : JE X E .st (.UnaryOp .Not a pos) (vNot fa) :=
  ⟨(pe_not ha.pe).imp fun σ H Q ⟨v, g, env, W, R, ER, o, eo, hf, x, q⟩ => ⟨v, g, env, W, _, ER, o, eo, hf, x, fun u d1 g1 H1 W1 h1 m1 o1 w1 => by
    cases d1 with
    | bl bb =>
      cases w1
      exact ⟨bb, rfl, (q.mv m1).now o1 h1 (.bl _)⟩
    | _ => exact h1.elim⟩⟩
/-- a value's test -/
theorem jt_val (ha : JE X E .st a fa) (he : ∀ whole, isTrue a X.env whole = (do let v ← whole; standAt a.pos; holding [v] (truthy v)) := by intro _; rfl) : JT X E a (tst fa) :=
  ⟨(pt_val ha.pe he).imp fun σ H Q h => tTest_of (t := tD (Cx.ct X) E .st fa) (fun _ _ _ z => z) σ H Q h⟩
/-- a value's truth -/
def D.tru : D → Option Bool
  | .non => some false
  | .bl b => some b
  | .int i => some (i != 0)
  | .str s => some ((s.length : Int) != 0)
  | .lst xs => some (!xs.isEmpty)
  | .tup xs => some (!xs.isEmpty)
  | .dct xs => some (!xs.isEmpty)
  | _ => none
def tru (f : Env → M D) : Env → M Bool := fun env => bnd (f env) fun d => match d.tru with
  | some b => ret b
  | none => fail
theorem RepAll.emp {c : Ct} {r : Addr} {g : Gd} {us : List V} {ds : List D} (h : RepAll c r g us ds) : us.isEmpty = ds.isEmpty := by cases h <;> rfl
theorem RepKV.emp {c : Ct} {r : Addr} {g : Gd} {us : List (Key × V)} {ds : List (Key × D)} (h : RepKV c r g us ds) : us.isEmpty = ds.isEmpty := by cases h <;> rfl
theorem pt_truth2 {ta : TE} (ha : PE X a ta) (he : ∀ whole, isTrue a X.env whole = (do let v ← whole; standAt a.pos; holding [v] (truthy v))) :
    PT X a (fun σ H Q => ta σ H fun x H' => (∃ k, TruV X.K x H' k ∧ Q k H') ∨ ∃ p kvs, x = .ref p ∧ Rd H' p (.dK kvs) ∧ Q (!kvs.isEmpty) H') := by
  refine ⟨fun pins s σ H Q I h => isTrue_plain (thn (ha.run pins s σ H _ I h) fun v s1 ⟨x, H1, I1, r1, q1⟩ => ?_) (he _)⟩
  rcases q1 with q1 | ⟨p, kvs, rfl, h1, q1⟩
  · exact tru_ok pins s1 σ H1 x v Q I1 r1 q1
  · cases r1
    exact d_truth I1 h1 fun s' I' => ⟨H1, I', q1⟩
theorem jt_tru (ha : JE X E .wk a fa) (he : ∀ whole, isTrue a X.env whole = (do let v ← whole; standAt a.pos; holding [v] (truthy v)) := by intro _; rfl) : JT X E a (tru fa) :=
  ⟨(pt_truth2 ha.pe he).imp fun σ H Q ⟨v, g, env, W, R, ER, o, eo, hf, x, q⟩ => ⟨v, g, env, W, _, ER, o, eo, hf, x, fun u d1 g1 H1 W1 h1 m1 o1 w1 => by
    cases e : d1.tru with
    | none =>
      dsimp only at h1
      rw [e] at h1
      exact h1.elim
    | some bb =>
      dsimp only at h1
      rw [e] at h1
      have qq := q bb g1 H1 W1 h1 m1 o1
      rcases w1 with w1 | ⟨p, rfl, _, _, _, w1⟩
      · cases w1 with
        | non => exact .inl ⟨bb, (Option.some.inj e).symm, qq⟩
        | bl _ => exact .inl ⟨bb, (Option.some.inj e).symm, qq⟩
        | int _ => exact .inl ⟨bb, (Option.some.inj e).symm, qq⟩
        | str s z => exact .inl ⟨bb, ⟨z, (Option.some.inj e).symm⟩, qq⟩
        | lst z h k => exact .inl ⟨bb, .inl ⟨_, SqL.of (o1.bh _ _ h), by rw [k.emp]; exact (Option.some.inj e).symm⟩, qq⟩
        | tup z h k => exact .inl ⟨bb, .inr (.inl ⟨_, SqT.le o1.bh h, by rw [k.emp]; exact (Option.some.inj e).symm⟩), qq⟩
        | dct z h k =>
          refine .inr ⟨_, _, rfl, .inr ⟨_, o1.bh _ _ h⟩, ?_⟩
          rw [k.emp, Option.some.inj e]
          exact qq
        | _ => cases e
      · cases d1 with
        | lst ds =>
          obtain ⟨vs, z, h, k⟩ := w1
          exact .inl ⟨bb, .inl ⟨_, SqL.of h, by rw [k.emp]; exact (Option.some.inj e).symm⟩, qq⟩
        | dct ds =>
          obtain ⟨vs, z, h, k⟩ := w1
          refine .inr ⟨_, _, rfl, .inl h, ?_⟩
          rw [k.emp, Option.some.inj e]
          exact qq
        | _ => exact w1.elim⟩⟩
def eIf (t : Env → M Bool) (fa fb : Env → M D) : Env → M D := fun env => bnd (t env) fun b => match b with
  | true => fa env
  | false => fb env
theorem je_if {c : Expr} (hc : JT X E c ta) (ha : JE X E k a fa) (hb : JE X E k b fb) : JE X E k (.IfExp c a b pos) (eIf ta fa fb) :=
  ⟨(pe_ifExp hc.pt ha.pe hb.pe).imp fun σ H Q ⟨v, g, env, W, R, ER, o, eo, hf, x, q⟩ => ⟨v, g, env, W, _, ER, o, eo, hf, x, fun bb g1 H1 W1 h1 m1 o1 => by
    cases bb with
    | true =>
      rw [if_pos rfl]
      exact ⟨v, g1, env, W1, R, ER, o1, eo.mono m1, h1, x.mv m1, q.mv m1⟩
    | false =>
      rw [if_neg Bool.false_ne_true]
      exact ⟨v, g1, env, W1, R, ER, o1, eo.mono m1, h1, x.mv m1, q.mv m1⟩⟩⟩
end
end Y

set_option maxRecDepth 100000
set_option maxHeartbeats 2000000
namespace Y
open PySem PySem.Spec PyProof.Rows L2

/-! ### what a value is, by its data -/
section
variable {c : Ct} {v : Vo} {g : Gd} {H : Hp} {W : List MO} {u : V}
theorem Wk.int {i : Int} (h : Wk c v g H u (.int i)) : u = .int i := by
  rcases h with h | ⟨q, _, _, _, _, w⟩
  · cases h; rfl
  · exact w.elim
theorem Wk.bl {i : Bool} (h : Wk c v g H u (.bl i)) : u = .bl i := by
  rcases h with h | ⟨q, _, _, _, _, w⟩
  · cases h; rfl
  · exact w.elim
theorem Wk.str {s : Str} (h : Wk c v g H u (.str s)) : u = .str s ∧ s.length ≤ sizeLine := by
  rcases h with h | ⟨q, _, _, _, _, w⟩
  · cases h with
    | str _ z => exact ⟨rfl, z⟩
  · exact w.elim
theorem Wk.lst {ds : List D} (o : Ok c v g H W) (h : Wk c v g H u (.lst ds)) : ∃ p vs, u = .ref p ∧ vs.length ≤ sizeLine ∧ H p = some (.lst vs) ∧ RepAll c v.rw g vs ds := by
  rcases h with h | ⟨q, e, _, _, _, vs, z, h, k⟩
  · cases h with
    | lst z h k => exact ⟨_, _, rfl, z, o.bh _ _ h, k⟩
  · exact ⟨q, vs, e, z, h, k⟩
theorem Wk.tup {ds : List D} (o : Ok c v g H W) (h : Wk c v g H u (.tup ds)) : ∃ p vs, u = .ref p ∧ vs.length ≤ sizeLine ∧ SqT c.K H p vs ∧ RepAll c v.rw g vs ds ∧ Rep c v.rw g u (.tup ds) := by
  rcases h with h | ⟨q, _, _, _, _, w⟩
  · cases h with
    | tup z h k => exact ⟨_, _, rfl, z, SqT.le o.bh h, k, .tup z h k⟩
  · exact w.elim
theorem Wk.dct {ds : List (Key × D)} (o : Ok c v g H W) (h : Wk c v g H u (.dct ds)) : ∃ p vs, u = .ref p ∧ vs.length ≤ sizeLine ∧ Rd H p (.dK vs) ∧ RepKV c v.rw g vs ds := by
  rcases h with h | ⟨q, e, _, _, _, vs, z, h, k⟩
  · cases h with
    | dct z h k => exact ⟨_, _, rfl, z, .inr ⟨_, o.bh _ _ h⟩, k⟩
  · exact ⟨q, vs, e, z, .inl h, k⟩
/-- a value whose data hold no address of a list or dict is strong -/
theorem Wk.strong {d : D} (h : Wk c v g H u d) (n : ∀ ds, d ≠ .lst ds) (n2 : ∀ ds, d ≠ .dct ds) : Rep c v.rw g u d := by
  rcases h with h | ⟨q, _, _, _, _, w⟩
  · exact h
  · cases d with
    | lst ds => exact absurd rfl (n ds)
    | dct ds => exact absurd rfl (n2 ds)
    | _ => exact w.elim
end
theorem RepAll.append {c : Ct} {r : Addr} {g : Gd} : ∀ {us ws : List V} {ds es : List D}, RepAll c r g us ds → RepAll c r g ws es → RepAll c r g (us ++ ws) (ds ++ es)
  | _, _, _, _, .nil, k => k
  | _, _, _, _, .cons h t, k => .cons h (RepAll.append t k)
theorem RepAll.snoc {c : Ct} {r : Addr} {g : Gd} {us : List V} {ds : List D} {u : V} {d : D} (h : RepAll c r g us ds) (k : Rep c r g u d) : RepAll c r g (us ++ [u]) (ds ++ [d]) := h.append (.cons k .nil)
theorem RepAll.get {c : Ct} {r : Addr} {g : Gd} : ∀ {us : List V} {ds : List D} {i : Nat} {d : D}, RepAll c r g us ds → ds[i]? = some d → ∃ u, us[i]? = some u ∧ Rep c r g u d
  | _, _, _, _, .nil, e => by simp at e
  | _, _, 0, _, .cons h t, e => by
    simp at e
    subst e
    exact ⟨_, rfl, h⟩
  | _, _, i + 1, d, .cons h t, e => by
    obtain ⟨u, a, b⟩ := RepAll.get (i := i) (d := d) t (by simpa using e)
    exact ⟨u, by simpa using a, b⟩
theorem RepAll.get' {c : Ct} {r : Addr} {g : Gd} : ∀ {us : List V} {ds : List D} {i : Nat} {u : V}, RepAll c r g us ds → us[i]? = some u → ∃ d, ds[i]? = some d ∧ Rep c r g u d
  | _, _, _, _, .nil, e => by simp at e
  | _, _, 0, _, .cons h t, e => by
    simp at e
    subst e
    exact ⟨_, rfl, h⟩
  | _, _, i + 1, d, .cons h t, e => by
    obtain ⟨u, a, b⟩ := RepAll.get' (i := i) (u := d) t (by simpa using e)
    exact ⟨u, by simpa using a, b⟩
theorem RepAll.take {c : Ct} {r : Addr} {g : Gd} : ∀ {us : List V} {ds : List D} (n : Nat), RepAll c r g us ds → RepAll c r g (us.take n) (ds.take n)
  | _, _, 0, _ => .nil
  | _, _, _ + 1, .nil => .nil
  | _, _, n + 1, .cons h t => .cons h (RepAll.take n t)
theorem RepAll.drop {c : Ct} {r : Addr} {g : Gd} : ∀ {us : List V} {ds : List D} (n : Nat), RepAll c r g us ds → RepAll c r g (us.drop n) (ds.drop n)
  | _, _, 0, h => h
  | _, _, _ + 1, .nil => .nil
  | _, _, n + 1, .cons _ t => RepAll.drop n t
theorem RepAll.reverse {c : Ct} {r : Addr} {g : Gd} : ∀ {us : List V} {ds : List D}, RepAll c r g us ds → RepAll c r g us.reverse ds.reverse
  | _, _, .nil => .nil
  | _, _, .cons h t => by
    rw [List.reverse_cons, List.reverse_cons]
    exact t.reverse.snoc h
theorem RepAll.set {c : Ct} {r : Addr} {g : Gd} {u : V} {d : D} (k : Rep c r g u d) : ∀ {us : List V} {ds : List D} (n : Nat), RepAll c r g us ds → RepAll c r g (us.set n u) (ds.set n d)
  | _, _, _, .nil => .nil
  | _, _, 0, .cons _ t => .cons k t
  | _, _, n + 1, .cons h t => .cons h (RepAll.set k n t)
theorem RepAll.rep {c : Ct} {r : Addr} {g : Gd} {us : List V} {ds : List D} (h : RepAll c r g us ds) : ∀ n : Nat, RepAll c r g (List.replicate n us).flatten (List.replicate n ds).flatten
  | 0 => .nil
  | n + 1 => by
    rw [List.replicate_succ, List.replicate_succ, List.flatten_cons, List.flatten_cons]
    exact h.append (h.rep n)
theorem RepAll.ints {c : Ct} {r : Addr} {g : Gd} : ∀ {us : List V} {ns : List Int}, RepAll c r g us (ns.map D.int) → us = ns.map V.int
  | _, [], h => by
    cases h
    rfl
  | _, n :: ns, h => by
    rw [List.map_cons] at h
    cases h with
    | cons a t =>
      cases a
      rw [List.map_cons, t.ints]
theorem RepAll.ofInts {c : Ct} {r : Addr} {g : Gd} : ∀ (ns : List Int), RepAll c r g (ns.map V.int) (ns.map D.int)
  | [] => .nil
  | n :: ns => .cons (.int n) (RepAll.ofInts ns)
theorem RepAll.bls {c : Ct} {r : Addr} {g : Gd} : ∀ {us : List V} {ns : List Bool}, RepAll c r g us (ns.map D.bl) → us = ns.map V.bl
  | _, [], h => by
    cases h
    rfl
  | _, n :: ns, h => by
    rw [List.map_cons] at h
    cases h with
    | cons a t =>
      cases a
      rw [List.map_cons, t.bls]

/-! ### arithmetic -/
def dAdd : D → D → M D
  | .int a, .int b => ret (.int (a + b))
  | .str a, .str b => ask (a.length + b.length ≤ sizeLine) (ret (.str (a ++ b)))
  | .lst a, .lst b => ask (a.length + b.length ≤ sizeLine) (ret (.lst (a ++ b)))
  | .tup a, .tup b => ask (a.length + b.length ≤ sizeLine) (ret (.tup (a ++ b)))
  | _, _ => fail
def dCat : D → D → M D
  | .lst a, .lst b => ask (a.length + b.length ≤ sizeLine) (ret (.lst (a ++ b)))
  | _, _ => fail
def dSub : D → D → M D
  | .int a, .int b => ret (.int (a - b))
  | _, _ => fail
def dMul : D → D → M D
  | .int a, .int b => ask (CMul a b) (ret (.int (a * b)))
  | .lst a, .int k => ask (-(2 ^ 63) ≤ k ∧ k < 2 ^ 63 ∧ a.length * k.toNat ≤ sizeLine) (ret (.lst (List.replicate k.toNat a).flatten))
  | _, _ => fail
def dRep : D → D → M D
  | .lst a, .int k => ask (-(2 ^ 63) ≤ k ∧ k < 2 ^ 63 ∧ a.length * k.toNat ≤ sizeLine) (ret (.lst (List.replicate k.toNat a).flatten))
  | _, _ => fail
def dFdiv : D → D → M D
  | .int a, .int b => ask (CDiv a b) (ret (.int (a / b)))
  | _, _ => fail
def dMod : D → D → M D
  | .int a, .int b => ask (0 < b) (ret (.int (a % b)))
  | _, _ => fail
def dPow : D → D → M D
  | .int a, .int b => ask (CPow a b) (ret (.int (a ^ b.toNat)))
  | _, _ => fail
def dNeg : D → M D
  | .int a => ret (.int (-a))
  | _ => fail
theorem str_append_length (a b : Str) : (a ++ b).length = a.length + b.length := by
  show (a ++ b).cps.size = a.cps.size + b.cps.size
  exact Array.size_append ..
theorem flat_len {α : Type} (n : Nat) (l : List α) : (List.replicate n l).flatten.length = l.length * n := by
  induction n with
  | zero => simp
  | succ n ih => rw [List.replicate_succ, List.flatten_cons, List.length_append, ih, Nat.mul_succ]; omega
section
variable {c : Ct}
abbrev rAddS : R2 := fun x y H Q => ∃ i j, x = .str i ∧ y = .str j ∧ i.length + j.length ≤ sizeLine ∧ Q (.str (i ++ j)) H
abbrev rAddI : R2 := rI0 fun i j => .int (i + j)
def rAdds (K : PySem.W.Frag) : R2 := fun x y H Q => rAddI x y H Q ∨ rAddS x y H Q ∨ rCat x y H Q ∨ rCatA K x y H Q
theorem op_adds {X : Cx} : OpR X (binaryOp .Add) (rAdds X.K) := op_add.or (op_add_str.or (op_cat.or op_catA))
theorem op2_cat : Op2 c .fr rCat dCat := by
  intro v g H W R ER Q u w x y o hx hy hf q
  cases x with
  | lst a =>
    cases y with
    | lst b =>
      obtain ⟨p, us, rfl, z1, h1, k1⟩ := hx.lst o
      obtain ⟨p2, ws, rfl, z2, h2, k2⟩ := hy.lst o
      obtain ⟨z, hf⟩ := hf
      have e1 := k1.length
      have e2 := k2.length
      exact ⟨p, p2, us, ws, rfl, rfl, h1, h2, by omega, q.newL o hf (by rw [List.length_append]; omega) (k1.append k2)⟩
    | _ => exact hf.elim
  | _ => exact hf.elim
theorem op2_add : Op2 c .st (rAdds c.K) dAdd := by
  intro v g H W R ER Q u w x y o hx hy hf q
  cases x with
  | int a =>
    cases y with
    | int b =>
      cases hx.int
      cases hy.int
      exact .inl ⟨a, b, rfl, rfl, q.now o hf (.int _)⟩
    | _ => exact hf.elim
  | str a =>
    cases y with
    | str b =>
      obtain ⟨rfl, z1⟩ := hx.str
      obtain ⟨rfl, z2⟩ := hy.str
      obtain ⟨z, hf⟩ := hf
      exact .inr (.inl ⟨a, b, rfl, rfl, z, q.now o hf (.str _ (by rw [str_append_length]; exact z))⟩)
    | _ => exact hf.elim
  | lst a =>
    cases y with
    | lst b => exact .inr (.inr (.inl (op2_cat v g H W R ER Q u w _ _ o hx hy hf q.frOf)))
    | _ => exact hf.elim
  | tup a =>
    cases y with
    | tup b =>
      obtain ⟨p, us, rfl, z1, h1, k1, s1⟩ := hx.tup o
      obtain ⟨p2, ws, rfl, z2, h2, k2, s2⟩ := hy.tup o
      obtain ⟨z, hf⟩ := hf
      have l1 := k1.length
      have l2 := k2.length
      refine .inr (.inr (.inr ⟨p, p2, us, ws, rfl, rfl, h1, h2, by omega, fun e => ?_, fun _ e => ?_, fun _ _ => ?_⟩))
      · subst e
        cases k1
        exact q.now o hf s2
      · subst e
        cases k2
        rw [List.append_nil] at hf
        exact q.now o hf s1
      · exact q.newT o hf (by rw [List.length_append]; omega) (k1.append k2)
    | _ => exact hf.elim
  | _ => exact hf.elim
theorem op2_sub : Op2 c .st (rI0 fun i j => .int (i - j)) dSub := by
  intro v g H W R ER Q u w x y o hx hy hf q
  cases x with
  | int a =>
    cases y with
    | int b =>
      cases hx.int
      cases hy.int
      exact ⟨a, b, rfl, rfl, q.now o hf (.int _)⟩
    | _ => exact hf.elim
  | _ => exact hf.elim
theorem op2_rep : Op2 c .fr rRep dRep := by
  intro v g H W R ER Q u w x y o hx hy hf q
  cases x with
  | lst a =>
    cases y with
    | int b =>
      obtain ⟨p, us, rfl, z1, h1, k1⟩ := hx.lst o
      cases hy.int
      obtain ⟨⟨a1, a2, a3⟩, hf⟩ := hf
      have e1 := k1.length
      have a4 : us.length * b.toNat ≤ sizeLine := by rw [e1]; exact a3
      exact ⟨p, b, us, rfl, rfl, h1, a1, a2, a4, q.newL o hf (by rw [flat_len]; exact a4) (k1.rep _)⟩
    | _ => exact hf.elim
  | _ => exact hf.elim
def rMuls : R2 := fun x y H Q => rI CMul (fun i j => .int (i * j)) x y H Q ∨ rRep x y H Q
theorem op_muls {X : Cx} : OpR X (binaryOp .Mult) rMuls := op_mul.or op_rep
theorem op2_mul : Op2 c .st rMuls dMul := by
  intro v g H W R ER Q u w x y o hx hy hf q
  cases x with
  | int a =>
    cases y with
    | int b =>
      cases hx.int
      cases hy.int
      exact .inl ⟨a, b, rfl, rfl, hf.1, q.now o hf.2 (.int _)⟩
    | _ => exact hf.elim
  | lst a =>
    cases y with
    | int b => exact .inr (op2_rep v g H W R ER Q u w _ _ o hx hy hf q.frOf)
    | _ => exact hf.elim
  | _ => exact hf.elim
theorem op2_I {C : Int → Int → Prop} {f : Int → Int → Int} {F : D → D → M D} (h : ∀ x y W R ER, F x y W R ER → ∃ a b, x = .int a ∧ y = .int b ∧ C a b ∧ R (.int (f a b)) W) : Op2 c .st (rI C fun i j => .int (f i j)) F := by
  intro v g H W R ER Q u w x y o hx hy hf q
  obtain ⟨a, b, rfl, rfl, hc, hr⟩ := h x y W R ER hf
  cases hx.int
  cases hy.int
  exact ⟨a, b, rfl, rfl, hc, q.now o hr (.int _)⟩
theorem op2_fdiv : Op2 c .st (rI CDiv fun i j => .int (i / j)) dFdiv := op2_I fun x y W R ER h => by
  cases x with
  | int a =>
    cases y with
    | int b => exact ⟨a, b, rfl, rfl, h.1, h.2⟩
    | _ => exact h.elim
  | _ => exact h.elim
theorem op2_mod : Op2 c .st (rI (fun _ j => 0 < j) fun i j => .int (i % j)) dMod := op2_I fun x y W R ER h => by
  cases x with
  | int a =>
    cases y with
    | int b => exact ⟨a, b, rfl, rfl, h.1, h.2⟩
    | _ => exact h.elim
  | _ => exact h.elim
theorem op2_pow : Op2 c .st (rI CPow fun i j => .int (i ^ j.toNat)) dPow := op2_I fun x y W R ER h => by
  cases x with
  | int a =>
    cases y with
    | int b => exact ⟨a, b, rfl, rfl, h.1, h.2⟩
    | _ => exact h.elim
  | _ => exact h.elim
theorem op1_neg : Op1 c .st (rU fun i => .int (-i)) dNeg := by
  intro v g H W R ER Q u x o hx hf q
  cases x with
  | int a =>
    cases hx.int
    exact ⟨a, rfl, q.now o hf (.int _)⟩
  | _ => exact hf.elim

/-! ### comparisons -/
def dCmp (p : Int → Int → Bool) : D → D → M D
  | .int a, .int b => ret (.bl (p a b))
  | _, _ => fail
abbrev dLt := dCmp fun i j => decide (i < j)
abbrev dLe := dCmp fun i j => decide (i ≤ j)
abbrev dGt := dCmp fun i j => decide (j < i)
abbrev dGe := dCmp fun i j => decide (j ≤ i)
theorem op2_cmp {p : Int → Int → Bool} : Op2 c .st (rI0 fun i j => .bl (p i j)) (dCmp p) := by
  intro v g H W R ER Q u w x y o hx hy hf q
  cases x with
  | int a =>
    cases y with
    | int b =>
      cases hx.int
      cases hy.int
      exact ⟨a, b, rfl, rfl, q.now o hf (.bl _)⟩
    | _ => exact hf.elim
  | _ => exact hf.elim
def dEqB (f : Bool → Bool) (x y : D) : M D := match x, y with
  | .str a, .str b => ret (.bl (f (decide (a = b))))
  | _, _ => ask (x.okd 60 = true ∧ y.okd 60 = true) (ret (.bl (f (x.eqb y))))
abbrev dEq := dEqB fun b => b
abbrev dNe := dEqB fun b => !b
def rEqs (K : PySem.W.Frag) : R2 := fun x y H Q => rEq x y H Q ∨ rEqD K x y H Q
def rNes (K : PySem.W.Frag) : R2 := fun x y H Q => rNe x y H Q ∨ rNeD K x y H Q
theorem op_eqs {X : Cx} (hu : X.A.units + 100 < cLine) : OpR X (compareOp .Eq) (rEqs X.K) := op_eq.or (op_eqD (by omega))
theorem op_nes {X : Cx} (hu : X.A.units + 100 < cLine) : OpR X (compareOp .NotEq) (rNes X.K) := op_ne.or (op_neD (by omega))
theorem dEqB_cases {f : Bool → Bool} {x y : D} {W : List MO} {R : D → List MO → Prop} {ER : Exn → List MO → Prop} (h : dEqB f x y W R ER) :
    (∃ a b, x = .str a ∧ y = .str b ∧ R (.bl (f (decide (a = b)))) W) ∨ ((x.okd 60 = true ∧ y.okd 60 = true) ∧ R (.bl (f (x.eqb y))) W) := by
  cases x with
  | str a =>
    cases y with
    | str b => exact .inl ⟨a, b, rfl, rfl, h⟩
    | _ => exact .inr h
  | _ => exact .inr h
theorem dec_vstr (a b : Str) : decide (V.str a = V.str b) = decide (a = b) := by
  by_cases h : a = b
  · subst h; simp
  · rw [decide_eq_false h, decide_eq_false (fun e => h (by injection e))]
theorem op2_eq : Op2 c .st (rEqs c.K) dEq := by
  intro v g H W R ER Q u w x y o hx hy hf q
  rcases dEqB_cases hf with ⟨a, b, rfl, rfl, hf⟩ | ⟨⟨h1, h2⟩, hf⟩
  · obtain ⟨rfl, _⟩ := hx.str
    obtain ⟨rfl, _⟩ := hy.str
    refine .inl ⟨rfl, ?_⟩
    rw [dec_vstr]
    exact q.now o hf (.bl _)
  · exact .inr ⟨_, _, hx.dp o.bh (D.okd_plain 60 x h1), hy.dp o.bh (D.okd_plain 60 y h2), D.okd_shaped h1, D.okd_shaped h2, q.now o hf (.bl _)⟩
theorem op2_ne : Op2 c .st (rNes c.K) dNe := by
  intro v g H W R ER Q u w x y o hx hy hf q
  rcases dEqB_cases hf with ⟨a, b, rfl, rfl, hf⟩ | ⟨⟨h1, h2⟩, hf⟩
  · obtain ⟨rfl, _⟩ := hx.str
    obtain ⟨rfl, _⟩ := hy.str
    refine .inl ⟨rfl, ?_⟩
    rw [dec_vstr]
    exact q.now o hf (.bl _)
  · exact .inr ⟨_, _, hx.dp o.bh (D.okd_plain 60 x h1), hy.dp o.bh (D.okd_plain 60 y h2), D.okd_shaped h1, D.okd_shaped h2, q.now o hf (.bl _)⟩
def D.isN : D → Bool
  | .non => true
  | _ => false
def dIsN (x y : D) : M D := ask (y = .non) (ret (.bl x.isN))
def dNotN (x y : D) : M D := ask (y = .non) (ret (.bl (!x.isN)))
theorem Wk.isN {v : Vo} {g : Gd} {H : Hp} {u : V} {d : D} (h : Wk c v g H u d) : decide (u = .non) = d.isN := by
  rcases h with h | ⟨q, rfl, _, _, _, w⟩
  · cases h <;> rfl
  · cases d <;> first | rfl | exact w.elim
theorem Wk.non {v : Vo} {g : Gd} {H : Hp} {u : V} (h : Wk c v g H u .non) : u = .non := by
  rcases h with h | ⟨q, rfl, _, _, _, w⟩
  · cases h; rfl
  · exact w.elim
theorem op2_isN : Op2 c .st (fun x y H Q => y = .non ∧ Q (.bl (decide (x = .non))) H) dIsN := by
  intro v g H W R ER Q u w x y o hx hy hf q
  obtain ⟨rfl, hf⟩ := hf
  refine ⟨hy.non, ?_⟩
  rw [hx.isN]
  exact q.now o hf (.bl _)
theorem op2_notN : Op2 c .st (fun x y H Q => y = .non ∧ Q (.bl (!decide (x = .non))) H) dNotN := by
  intro v g H W R ER Q u w x y o hx hy hf q
  obtain ⟨rfl, hf⟩ := hf
  refine ⟨hy.non, ?_⟩
  rw [hx.isN]
  exact q.now o hf (.bl _)

/-! ### in -/
def D.key : D → Option Key
  | .int i => some (.inl i)
  | .str s => some (.inr s)
  | _ => none
def rInK : R2 := fun y x H Q => ∃ a o, x = .ref a ∧ DGet H a y o ∧ Q (.bl o.isSome) H
def rNotInK : R2 := fun y x H Q => ∃ a o, x = .ref a ∧ DGet H a y o ∧ Q (.bl (!o.isSome)) H
theorem op_inK {X : Cx} (hu : X.A.units + 1 < cLine) : OpR X (compareOp .In) rInK := by
  intro pins s σ H x y v u Q I rx ry h
  obtain ⟨a, o, rfl, gd, q⟩ := h
  cases ry
  exact d_in hu I gd rx fun s' I' => ⟨.bl _, H, I', rfl, q⟩
theorem op_notInK {X : Cx} (hu : X.A.units + 1 < cLine) : OpR X (compareOp .NotIn) rNotInK := by
  intro pins s σ H x y v u Q I rx ry h
  obtain ⟨a, o, rfl, gd, q⟩ := h
  cases ry
  exact d_notIn hu I gd rx fun s' I' => ⟨.bl _, H, I', rfl, q⟩
/-- what a dict holds -/
def getK (kvs : List (Key × D)) (k : Key) : Option D := (kvs.find? fun kv => decide (kv.1 = k)).map (·.2)
theorem RepKV.val {r : Addr} {g : Gd} (k : Key) : ∀ {us : List (Key × V)} {ds : List (Key × D)}, RepKV c r g us ds → match valV us k, getK ds k with
    | some u, some d => Rep c r g u d
    | none, none => True
    | _, _ => False
  | _, _, .nil => True.intro
  | _, _, .cons (k := k') (v := v0) (d := d0) (vs := vs) (ds := ds) h t => by
    by_cases e : k' = k
    · have e1 : valV ((k', v0) :: vs) k = some v0 := valV_pos (p := (k', v0)) e
      have e2 : getK ((k', d0) :: ds) k = some d0 := by simp [getK, List.find?_cons, e]
      rw [e1, e2]
      exact h
    · have e1 : valV ((k', v0) :: vs) k = valV vs k := valV_neg (p := (k', v0)) e
      have e2 : getK ((k', d0) :: ds) k = getK ds k := by simp [getK, List.find?_cons, e]
      rw [e1, e2]
      exact RepKV.val k t
theorem RepKV.isSome {r : Addr} {g : Gd} {us : List (Key × V)} {ds : List (Key × D)} (h : RepKV c r g us ds) (k : Key) : (valV us k).isSome = (getK ds k).isSome := by
  have := h.val k
  cases e1 : valV us k <;> cases e2 : getK ds k <;> rw [e1, e2] at this <;> first | rfl | exact this.elim
theorem RepKV.some {r : Addr} {g : Gd} {us : List (Key × V)} {ds : List (Key × D)} (h : RepKV c r g us ds) {k : Key} {d : D} (e : getK ds k = some d) : ∃ u, valV us k = some u ∧ Rep c r g u d := by
  have := h.val k
  cases e1 : valV us k with
  | none =>
    rw [e1, e] at this
    exact this.elim
  | some u =>
    rw [e1, e] at this
    exact ⟨u, rfl, this⟩
theorem Wk.key {v : Vo} {g : Gd} {H : Hp} {u : V} {d : D} {k : Key} (h : Wk c v g H u d) (e : d.key = some k) : u = kV k := by
  cases d with
  | int i =>
    cases e
    exact h.int
  | str s =>
    cases e
    exact h.str.1
  | _ => cases e
theorem DGet.rd {H : Hp} {a : Addr} {kvs : List (Key × V)} {k : Key} (e : Rd H a (.dK kvs)) : DGet H a (kV k) (valV kvs k) := .inl ⟨kvs, k, e, rfl, rfl⟩
def dInB (f : Bool → Bool) (x y : D) : M D := match y with
  | .dct kvs => match x.key with
    | some k => ret (.bl (f (getK kvs k).isSome))
    | none => fail
  | .lst ds => ask (x.okd 60 = true ∧ (D.lst ds).okd 60 = true) (ret (.bl (f (ds.any fun z => z.eqb x))))
  | .str s => fun W R _ => ∃ a, x = .str ⟨#[a]⟩ ∧ R (.bl (f (decide (a ∈ s.cps.toList)))) W
  | _ => fail
abbrev dIn := dInB fun b => b
abbrev dNotIn := dInB fun b => !b
theorem toPs_any {x : D} : ∀ ds : List D, (D.toPs ds).any (fun z => PyData.eqv z x.toP) = ds.any fun z => z.eqb x
  | [] => rfl
  | d :: ds => by rw [D.toPs, List.any_cons, List.any_cons, toPs_any ds] <;> rfl
abbrev rInSg : R2 := fun x y H Q => ∃ (c : Nat) (z : Str), x = .str ⟨#[c]⟩ ∧ y = .str z ∧ Q (.bl (decide (c ∈ z.cps.toList))) H
abbrev rNotInSg : R2 := fun x y H Q => ∃ (c : Nat) (z : Str), x = .str ⟨#[c]⟩ ∧ y = .str z ∧ Q (.bl (!decide (c ∈ z.cps.toList))) H
def rIns (K : PySem.W.Frag) : R2 := fun x y H Q => rInK x y H Q ∨ rInD K x y H Q ∨ rInSg x y H Q
def rNotIns (K : PySem.W.Frag) : R2 := fun x y H Q => rNotInK x y H Q ∨ rNotInD K x y H Q ∨ rNotInSg x y H Q
theorem op_ins {X : Cx} (hu : X.A.units + 100 < cLine) : OpR X (compareOp .In) (rIns X.K) := (op_inK (by omega)).or ((op_inD (by omega)).or op_in_sign)
theorem op_notIns {X : Cx} (hu : X.A.units + 100 < cLine) : OpR X (compareOp .NotIn) (rNotIns X.K) := (op_notInK (by omega)).or ((op_notInD (by omega)).or op_notIn_sign)
theorem op2_in : Op2 c .st (rIns c.K) dIn := by
  intro v g H W R ER Q u w x y o hx hy hf q
  cases y with
  | dct kvs =>
    cases e : x.key with
    | none =>
      have hf : (match x.key with | some k => ret (.bl ((getK kvs k).isSome)) | none => fail : M D) W R ER := hf
      rw [e] at hf
      exact hf.elim
    | some k =>
      have hf : (match x.key with | some k => ret (.bl ((getK kvs k).isSome)) | none => fail : M D) W R ER := hf
      rw [e] at hf
      obtain ⟨p, us, rfl, _, h1, k1⟩ := hy.dct o
      cases hx.key e
      refine .inl ⟨p, _, rfl, DGet.rd h1, ?_⟩
      rw [k1.isSome]
      exact q.now o hf (.bl _)
  | lst ds =>
    obtain ⟨⟨h1, h2⟩, hf⟩ := hf
    refine .inr (.inl ⟨_, _, hx.dp o.bh (D.okd_plain 60 x h1), hy.dp o.bh (D.okd_plain 60 _ h2), D.okd_shaped h1, D.okd_shaped h2, ?_⟩)
    rw [toPs_any]
    exact q.now o hf (.bl _)
  | str s =>
    obtain ⟨a, rfl, hf⟩ := hf
    obtain ⟨rfl, _⟩ := hx.str
    obtain ⟨rfl, _⟩ := hy.str
    exact .inr (.inr ⟨_, _, rfl, rfl, q.now o hf (.bl _)⟩)
  | _ => exact hf.elim
theorem op2_notIn : Op2 c .st (rNotIns c.K) dNotIn := by
  intro v g H W R ER Q u w x y o hx hy hf q
  cases y with
  | dct kvs =>
    cases e : x.key with
    | none =>
      have hf : (match x.key with | some k => ret (.bl (!(getK kvs k).isSome)) | none => fail : M D) W R ER := hf
      rw [e] at hf
      exact hf.elim
    | some k =>
      have hf : (match x.key with | some k => ret (.bl (!(getK kvs k).isSome)) | none => fail : M D) W R ER := hf
      rw [e] at hf
      obtain ⟨p, us, rfl, _, h1, k1⟩ := hy.dct o
      cases hx.key e
      refine .inl ⟨p, _, rfl, DGet.rd h1, ?_⟩
      rw [k1.isSome]
      exact q.now o hf (.bl _)
  | lst ds =>
    obtain ⟨⟨h1, h2⟩, hf⟩ := hf
    refine .inr (.inl ⟨_, _, hx.dp o.bh (D.okd_plain 60 x h1), hy.dp o.bh (D.okd_plain 60 _ h2), D.okd_shaped h1, D.okd_shaped h2, ?_⟩)
    rw [toPs_any]
    exact q.now o hf (.bl _)
  | str s =>
    obtain ⟨a, rfl, hf⟩ := hf
    obtain ⟨rfl, _⟩ := hx.str
    obtain ⟨rfl, _⟩ := hy.str
    exact .inr (.inr ⟨_, _, rfl, rfl, q.now o hf (.bl _)⟩)
  | _ => exact hf.elim
end
end Y

set_option maxRecDepth 100000
set_option maxHeartbeats 2000000
namespace Y
open PySem PySem.Spec PyProof.Rows L2

/-! ### arguments, displays -/
def aNil : Env → M (List D) := fun _ => ret []
def aCons (fa : Env → M D) (fr : Env → M (List D)) : Env → M (List D) := fun env => bnd (fa env) fun x => bnd (fr env) fun xs => ret (x :: xs)
def D.items : D → Option (List D)
  | .lst xs => some xs
  | .tup xs => some xs
  | _ => none
def aStar (fa : Env → M D) (fr : Env → M (List D)) : Env → M (List D) := fun env => bnd (fa env) fun x => match x.items with
  | some ys => bnd (fr env) fun xs => ret (ys ++ xs)
  | none => fail
def eTup (f : Env → M (List D)) : Env → M D := fun env => bnd (f env) fun ds => ret (.tup ds)
def eLst (f : Env → M (List D)) : Env → M D := fun env => bnd (f env) fun ds => ret (.lst ds)
def eTupS (f : Env → M (List D)) : Env → M D := fun env => bnd (f env) fun ds => ask (ds.length ≤ sizeLine) (ret (.tup ds))
def eLstS (f : Env → M (List D)) : Env → M D := fun env => bnd (f env) fun ds => ask (ds.length ≤ sizeLine) (ret (.lst ds))
theorem small (n : Nat) (h : n ≤ 1000) : n ≤ sizeLine := Nat.le_trans h (by decide)
section
variable {X : Cx} {E : XK} {pos p : Pos} {e : Expr} {es : List Expr} {k : Kd} {n : Option Nat} {m : Nat} {fa : Env → M D} {fr : Env → M (List D)}
theorem ja_nil : JA X E .st (some 0) [] aNil := ⟨pa_nil.imp fun σ H Q ⟨v, g, env, W, R, ER, o, eo, hf, x, q⟩ => q [] [] g H W hf (Gr.refl v g H) o .nil fun _ h => by cases h; rfl⟩
theorem JA.stWk (h : JA X E .st n es fr) : JA X E .wk n es fr := ⟨h.pa.imp fun _ _ _ ⟨v, g, env, W, R, ER, o, eo, hf, x, q⟩ => ⟨v, g, env, W, R, ER, o, eo, hf, x, fun us ds g' H' W' r m' o' h l => q us ds g' H' W' r m' o' h.wk l⟩⟩
theorem ja_cons (ha : JE X E .st e fa) (hr : JA X E .st n es fr) (hs : starEach (e :: es) X.env = (false, eval e X.env) :: starEach es X.env := by rfl) : JA X E .st (n.map (· + 1)) (e :: es) (aCons fa fr) :=
  ⟨(pa_cons ha.pe hr.pa hs).imp fun σ H Q ⟨v, g, env, W, R, ER, o, eo, hf, x, q⟩ => ⟨v, g, env, W, _, ER, o, eo, hf, x, fun u d g1 H1 W1 h1 m1 o1 w1 =>
    ⟨v, g1, env, W1, _, ER, o1, eo.mono m1, h1, x.mv m1, fun us ds g2 H2 W2 h2 m2 o2 w2 l2 => q (u :: us) (d :: ds) g2 H2 W2 h2 (m1.trans m2) o2 (.cons (w1.mono m2.le) w2) fun j hj => by
      cases n with
      | none => cases hj
      | some n' =>
        cases hj
        rw [List.length_cons, l2 _ rfl]⟩⟩⟩
theorem ja_consW (ha : JE X E .wk e fa) (hr : JA X E .wk n es fr) (hs : starEach (e :: es) X.env = (false, eval e X.env) :: starEach es X.env := by rfl) : JA X E .wk (n.map (· + 1)) (e :: es) (aCons fa fr) :=
  ⟨(pa_cons ha.pe hr.pa hs).imp fun σ H Q ⟨v, g, env, W, R, ER, o, eo, hf, x, q⟩ => ⟨v, g, env, W, _, ER, o, eo, hf, x, fun u d g1 H1 W1 h1 m1 o1 w1 =>
    ⟨v, g1, env, W1, _, ER, o1, eo.mono m1, h1, x.mv m1, fun us ds g2 H2 W2 h2 m2 o2 w2 l2 => q (u :: us) (d :: ds) g2 H2 W2 h2 (m1.trans m2) o2 ⟨Wk.mono m2 w1, w2⟩ fun j hj => by
      cases n with
      | none => cases hj
      | some n' =>
        cases hj
        rw [List.length_cons, l2 _ rfl]⟩⟩⟩
theorem ja_star (ha : JE X E .wk e fa) (hr : JA X E .st n es fr) (hs : starEach (.Starred e p :: es) X.env = (true, eval e X.env) :: starEach es X.env := by rfl) : JA X E .st none (.Starred e p :: es) (aStar fa fr) :=
  ⟨(StX.pa_star ha.pe hr.pa hs).imp fun σ H Q ⟨v, g, env, W, R, ER, o, eo, hf, x, q⟩ => ⟨v, g, env, W, _, ER, o, eo, hf, x, fun u d g1 H1 W1 h1 m1 o1 w1 => by
    have fin : ∀ (a : Addr) (vs : List V) (ys : List D), RepAll (Cx.ct X) v.rw g1 vs ys → bnd (fr env) (fun xs => ret (ys ++ xs)) W1 R ER → tL (Cx.ct X) E .st n fr σ H1 fun ws H2 => Q (vs ++ ws) H2 := fun a vs ys k1 h =>
      ⟨v, g1, env, W1, _, ER, o1, eo.mono m1, h, x.mv m1, fun us ds g2 H2 W2 h2 m2 o2 w2 l2 => q (vs ++ us) (ys ++ ds) g2 H2 W2 h2 (m1.trans m2) o2 ((k1.mono m2.le).append w2) fun j hj => by cases hj⟩
    cases d with
    | lst ys =>
      obtain ⟨a, vs, rfl, z, h, k1⟩ := Wk.lst o1 w1
      exact ⟨a, vs, rfl, .inr (SqL.of h), fin a vs ys k1 h1⟩
    | tup ys =>
      obtain ⟨a, vs, rfl, z, h, k1, _⟩ := Wk.tup o1 w1
      exact ⟨a, vs, rfl, .inl h, fin a vs ys k1 h1⟩
    | _ => exact h1.elim⟩⟩
theorem je_tup {x1} (h : JA X E .st (some m) es fr) (hm : m ≤ 1000 := by decide) : JE X E .st (.Tuple es x1 pos) (eTup fr) :=
  ⟨(pe_tup h.pa).imp fun σ H Q ⟨v, g, env, W, R, ER, o, eo, hf, x, q⟩ => ⟨v, g, env, W, _, ER, o, eo, hf, x, fun us ds g1 H1 W1 h1 m1 o1 w1 l1 =>
    ⟨by rw [l1 m rfl]; exact small m hm, (q.mv m1).newT o1 h1 (by rw [l1 m rfl]; exact small m hm) w1⟩⟩⟩
theorem je_lst (h : JA X E .st (some m) es fr) (hm : m ≤ 1000 := by decide) : JE X E .fr (.List es pos) (eLst fr) :=
  ⟨(pe_lst h.pa).imp fun σ H Q ⟨v, g, env, W, R, ER, o, eo, hf, x, q⟩ => ⟨v, g, env, W, _, ER, o, eo, hf, x, fun us ds g1 H1 W1 h1 m1 o1 w1 l1 =>
    ⟨by rw [l1 m rfl]; exact small m hm, (q.mv m1).newL o1 h1 (by rw [l1 m rfl]; exact small m hm) w1⟩⟩⟩
theorem je_tupS {x1} (h : JA X E .st n es fr) : JE X E .st (.Tuple es x1 pos) (eTupS fr) :=
  ⟨(pe_tup h.pa).imp fun σ H Q ⟨v, g, env, W, R, ER, o, eo, hf, x, q⟩ => ⟨v, g, env, W, _, ER, o, eo, hf, x, fun us ds g1 H1 W1 h1 m1 o1 w1 l1 => by
    obtain ⟨z, h1⟩ := h1
    have z : us.length ≤ sizeLine := by rw [RepAll.length w1]; exact z
    exact ⟨z, (q.mv m1).newT o1 h1 z w1⟩⟩⟩
theorem je_lstS (h : JA X E .st n es fr) : JE X E .fr (.List es pos) (eLstS fr) :=
  ⟨(pe_lst h.pa).imp fun σ H Q ⟨v, g, env, W, R, ER, o, eo, hf, x, q⟩ => ⟨v, g, env, W, _, ER, o, eo, hf, x, fun us ds g1 H1 W1 h1 m1 o1 w1 l1 => by
    obtain ⟨z, h1⟩ := h1
    have z : us.length ≤ sizeLine := by rw [RepAll.length w1]; exact z
    exact ⟨z, (q.mv m1).newL o1 h1 z w1⟩⟩⟩
end

/-! ### calls of built-ins, one argument or two -/
abbrev on1 (r : List V → Hp → VK → Prop) : V → Hp → VK → Prop := fun u H Q => r [u] H Q
abbrev on2 (r : List V → Hp → VK → Prop) : R2 := fun u w H Q => r [u, w] H Q
section
variable {X : Cx} {E : XK} {pos p : Pos} {a b : Expr} {k : Kd} {fa fb : Env → M D} {x : Str} {id T : String} {r : List V → Hp → VK → Prop}
theorem tCB1_of {c : Ct} {F : D → M D} (h1 : Op1 c k (on1 r) F) : ∀ σ H Q, tD c E k (e1 F fa) σ H Q → tCB r (tCons (tD c E .wk fa) tNil) σ H Q :=
  fun σ H Q ⟨v, g, env, W, R, ER, o, eo, hf, x, q⟩ => ⟨v, g, env, W, _, ER, o, eo, hf, x, fun u d g1 H1 W1 h1' m1 o1 w1 => h1 v g1 H1 W1 R ER Q u d o1 w1 h1' (q.mv m1)⟩
theorem tCB2_of {c : Ct} {F : D → D → M D} (h2 : Op2 c k (on2 r) F) : ∀ σ H Q, tD c E k (e2 F fa fb) σ H Q → tCB r (tCons (tD c E .wk fa) (tCons (tD c E .wk fb) tNil)) σ H Q :=
  fun σ H Q h => tOp_of h2 σ H Q h
theorem je_b1 {F : D → M D} (hc : CallR X (.builtin id) r) (h1 : Op1 (Cx.ct X) k (on1 r) F) (hm : X.mg x = none) (hv : bootBuiltins x = some (.builtin id)) (ha : JE X E .wk a fa) (hg : Gl X x := by rfl) (hn : x ≠ "__name__" := by decide) (hdb : (x == ("__debug__" : Str)) = false := by decide)
    (he : starEach [a] X.env = (false, eval a X.env) :: starEach [] X.env := by rfl) (hpl : (backTo pos (starEach [] X.env)).any (·.1) = false := by rfl) : JE X E k (.Call (.Name x p) [a] [] pos) (e1 F fa) :=
  ⟨(pe_callB hc hg hm hv (pa_cons ha.pe pa_nil he) hn hdb he hpl).imp (tCB1_of h1)⟩
theorem je_b2 {F : D → D → M D} (hc : CallR X (.builtin id) r) (h2 : Op2 (Cx.ct X) k (on2 r) F) (hm : X.mg x = none) (hv : bootBuiltins x = some (.builtin id)) (ha : JE X E .wk a fa) (hb : JE X E .wk b fb) (hg : Gl X x := by rfl) (hn : x ≠ "__name__" := by decide) (hdb : (x == ("__debug__" : Str)) = false := by decide)
    (he : starEach [a, b] X.env = (false, eval a X.env) :: starEach [b] X.env := by rfl) (he2 : starEach [b] X.env = (false, eval b X.env) :: starEach [] X.env := by rfl) (hpl : (backTo pos (starEach [b] X.env)).any (·.1) = false := by rfl) : JE X E k (.Call (.Name x p) [a, b] [] pos) (e2 F fa fb) :=
  ⟨(pe_callB hc hg hm hv (pa_cons ha.pe (pa_cons hb.pe pa_nil he2) he) hn hdb he hpl).imp (tCB2_of h2)⟩
theorem je_t1 {F : D → M D} (hc : CallR X (.type T) r) (h1 : Op1 (Cx.ct X) k (on1 r) F) (hm : X.mg x = none) (hv : bootBuiltins x = some (.type T)) (ha : JE X E .wk a fa) (hg : Gl X x := by rfl) (hn : x ≠ "__name__" := by decide) (hdb : (x == ("__debug__" : Str)) = false := by decide)
    (he : starEach [a] X.env = (false, eval a X.env) :: starEach [] X.env := by rfl) (hpl : (backTo pos (starEach [] X.env)).any (·.1) = false := by rfl) : JE X E k (.Call (.Name x p) [a] [] pos) (e1 F fa) :=
  ⟨(pe_callTy hc hg hm hv (pa_cons ha.pe pa_nil he) hn hdb he hpl).imp (tCB1_of h1)⟩
end

/-! ### len, sum, all, any, abs, int, str, list, tuple -/
def dLen : D → M D
  | .lst xs => ret (.int xs.length)
  | .tup xs => ret (.int xs.length)
  | .dct xs => ret (.int xs.length)
  | .str s => ret (.int s.length)
  | _ => fail
abbrev rLen (K : PySem.W.Frag) : List V → Hp → VK → Prop := fun xs H Q => ∃ x n, xs = [x] ∧ LenV K x H n ∧ Q (.int n) H
abbrev rLenD : List V → Hp → VK → Prop := fun xs H Q => ∃ a kvs, xs = [V.ref a] ∧ Rd H a (.dK kvs) ∧ Q (.int kvs.length) H
theorem call_lenR {X : Cx} : CallR X (.builtin "len") rLenD := by
  intro pins s σ H xs us Q I r h
  obtain ⟨a, kvs, rfl, ha, q⟩ := h
  obtain ⟨u, rfl, ru⟩ := vals1 r
  cases ru
  exact d_len I ha fun t s' I' => ⟨.int kvs.length, H, I', ⟨t, rfl⟩, q⟩
def rLens (K : PySem.W.Frag) : List V → Hp → VK → Prop := fun xs H Q => rLen K xs H Q ∨ rLenD xs H Q
theorem cr_len {X : Cx} : CallR X (.builtin "len") (rLens X.K) := call_len.or call_lenR
theorem RepKV.length {c : Ct} {r : Addr} {g : Gd} : ∀ {us : List (Key × V)} {ds : List (Key × D)}, RepKV c r g us ds → us.length = ds.length
  | _, _, .nil => rfl
  | _, _, .cons _ t => by rw [List.length_cons, List.length_cons, t.length]
section
variable {c : Ct}
theorem op1_len : Op1 c .st (on1 (rLens c.K)) dLen := by
  intro v g H W R ER Q u x o hx hf q
  cases x with
  | lst ds =>
    obtain ⟨p, vs, rfl, z, h, k⟩ := hx.lst o
    refine .inl ⟨_, vs.length, rfl, .inl ⟨vs, SqL.of h, rfl⟩, ?_⟩
    rw [k.length]
    exact q.now o hf (.int _)
  | tup ds =>
    obtain ⟨p, vs, rfl, z, h, k, _⟩ := hx.tup o
    refine .inl ⟨_, vs.length, rfl, .inr ⟨vs, h, rfl⟩, ?_⟩
    rw [k.length]
    exact q.now o hf (.int _)
  | dct ds =>
    obtain ⟨p, vs, rfl, z, h, k⟩ := hx.dct o
    refine .inr ⟨p, vs, rfl, h, ?_⟩
    rw [k.length]
    exact q.now o hf (.int _)
  | str s =>
    obtain ⟨rfl, z⟩ := hx.str
    exact .inl ⟨_, s.length, rfl, ⟨z, rfl⟩, q.now o hf (.int _)⟩
  | _ => exact hf.elim
def dSum : D → M D
  | .lst xs => fun W R _ => ∃ ns : List Int, xs = ns.map .int ∧ R (.int ns.sum) W
  | _ => fail
theorem op1_sum : Op1 c .st (on1 (rSum c.K)) dSum := by
  intro v g H W R ER Q u x o hx hf q
  cases x with
  | lst ds =>
    obtain ⟨ns, rfl, hf⟩ := hf
    obtain ⟨p, vs, rfl, z, h, k⟩ := hx.lst o
    cases k.ints
    exact ⟨p, ns, rfl, SqL.of h, q.now o hf (.int _)⟩
  | _ => exact hf.elim
def dAll : D → M D
  | .lst xs => fun W R _ => ∃ bs : List Bool, xs = bs.map .bl ∧ R (.bl (bs.all id)) W
  | _ => fail
theorem op1_all : Op1 c .st (on1 (rAll c.K)) dAll := by
  intro v g H W R ER Q u x o hx hf q
  cases x with
  | lst ds =>
    obtain ⟨ns, rfl, hf⟩ := hf
    obtain ⟨p, vs, rfl, z, h, k⟩ := hx.lst o
    cases k.bls
    exact ⟨p, ns, rfl, SqL.of h, q.now o hf (.bl _)⟩
  | _ => exact hf.elim
def dAny : D → M D
  | .lst xs => fun W R _ => ∃ bs : List Bool, xs = bs.map .bl ∧ R (.bl (bs.any id)) W
  | _ => fail
theorem op1_any : Op1 c .st (on1 (rAny c.K)) dAny := by
  intro v g H W R ER Q u x o hx hf q
  cases x with
  | lst ds =>
    obtain ⟨ns, rfl, hf⟩ := hf
    obtain ⟨p, vs, rfl, z, h, k⟩ := hx.lst o
    cases k.bls
    exact ⟨p, ns, rfl, SqL.of h, q.now o hf (.bl _)⟩
  | _ => exact hf.elim
def dAbs : D → M D
  | .int i => ret (.int (if i < 0 then -i else i))
  | _ => fail
theorem op1_abs : Op1 c .st (on1 fun xs H Q => ∃ i, xs = [.int i] ∧ Q (.int (if i < 0 then -i else i)) H) dAbs := by
  intro v g H W R ER Q u x o hx hf q
  cases x with
  | int i =>
    cases hx.int
    exact ⟨i, rfl, q.now o hf (.int _)⟩
  | _ => exact hf.elim
def dInt : D → M D
  | .int i => ret (.int i)
  | .bl b => ret (.int (if b then 1 else 0))
  | .str s => fun W R _ => ∃ n, PySem.intText? s = some n ∧ s.length ≤ 640 ∧ R (.int n) W
  | _ => fail
abbrev rInt1 : List V → Hp → VK → Prop := fun xs H Q => (∃ i, xs = [.int i] ∧ Q (.int i) H) ∨ ∃ k, xs = [.bl k] ∧ Q (.int (if k then 1 else 0)) H
abbrev rIntS : List V → Hp → VK → Prop := fun xs H Q => ∃ a n, xs = [.str a] ∧ PySem.intText? a = some n ∧ a.length ≤ 640 ∧ Q (.int n) H
def rInts : List V → Hp → VK → Prop := fun xs H Q => rInt1 xs H Q ∨ rIntS xs H Q
theorem cr_int {X : Cx} : CallR X (.type "int") rInts := call_int1.or call_int_str
theorem op1_int : Op1 c .st (on1 rInts) dInt := by
  intro v g H W R ER Q u x o hx hf q
  cases x with
  | int i =>
    cases hx.int
    exact .inl (.inl ⟨i, rfl, q.now o hf (.int _)⟩)
  | bl b =>
    cases hx.bl
    exact .inl (.inr ⟨b, rfl, q.now o hf (.int _)⟩)
  | str s =>
    obtain ⟨rfl, z⟩ := hx.str
    obtain ⟨n, h1, h2, hf⟩ := hf
    exact .inr ⟨s, n, rfl, h1, h2, q.now o hf (.int _)⟩
  | _ => exact hf.elim
abbrev rLstOf (K : PySem.W.Frag) : List V → Hp → VK → Prop := fun xs H Q => ∃ p ys, xs = [.ref p] ∧ (SqL K H p ys ∨ SqT K H p ys) ∧ ∀ l, H l = none → Q (.ref l) (upd H l (.lst ys))
def dList : D → M D
  | .lst xs => ret (.lst xs)
  | .tup xs => ret (.lst xs)
  | _ => fail
theorem op1_list : Op1 c .fr (on1 (rLstOf c.K)) dList := by
  intro v g H W R ER Q u x o hx hf q
  cases x with
  | lst ds =>
    obtain ⟨p, vs, rfl, z, h, k⟩ := hx.lst o
    exact ⟨p, vs, rfl, .inl (SqL.of h), q.newL o hf z k⟩
  | tup ds =>
    obtain ⟨p, vs, rfl, z, h, k, _⟩ := hx.tup o
    exact ⟨p, vs, rfl, .inr h, q.newL o hf z k⟩
  | _ => exact hf.elim
abbrev rTupOf (K : PySem.W.Frag) : List V → Hp → VK → Prop := fun xs H Q => ∃ p ys, xs = [.ref p] ∧ ((SqL K H p ys ∧ ∀ l, H l = none → Q (.ref l) (upd H l (.tup ys))) ∨ (SqT K H p ys ∧ Q (.ref p) H))
def dTuple : D → M D
  | .lst xs => ret (.tup xs)
  | .tup xs => ret (.tup xs)
  | _ => fail
theorem op1_tuple : Op1 c .st (on1 (rTupOf c.K)) dTuple := by
  intro v g H W R ER Q u x o hx hf q
  cases x with
  | lst ds =>
    obtain ⟨p, vs, rfl, z, h, k⟩ := hx.lst o
    exact ⟨p, vs, rfl, .inl ⟨SqL.of h, q.newT o hf z k⟩⟩
  | tup ds =>
    obtain ⟨p, vs, rfl, z, h, k, s⟩ := hx.tup o
    exact ⟨p, vs, rfl, .inr ⟨h, q.now o hf s⟩⟩
  | _ => exact hf.elim
def dMax2 : D → D → M D
  | .int i, .int j => ret (.int (if j > i then j else i))
  | _, _ => fail
def dMin2 : D → D → M D
  | .int i, .int j => ret (.int (if j < i then j else i))
  | _, _ => fail
theorem op2_max2 : Op2 c .st (on2 fun xs H Q => ∃ i j, xs = [.int i, .int j] ∧ Q (.int (if j > i then j else i)) H) dMax2 := by
  intro v g H W R ER Q u w x y o hx hy hf q
  cases x with
  | int a =>
    cases y with
    | int b =>
      cases hx.int
      cases hy.int
      exact ⟨a, b, rfl, q.now o hf (.int _)⟩
    | _ => exact hf.elim
  | _ => exact hf.elim
theorem op2_min2 : Op2 c .st (on2 fun xs H Q => ∃ i j, xs = [.int i, .int j] ∧ Q (.int (if j < i then j else i)) H) dMin2 := by
  intro v g H W R ER Q u w x y o hx hy hf q
  cases x with
  | int a =>
    cases y with
    | int b =>
      cases hx.int
      cases hy.int
      exact ⟨a, b, rfl, q.now o hf (.int _)⟩
    | _ => exact hf.elim
  | _ => exact hf.elim
end

/-! ### isinstance -/
def D.ty : D → Option String
  | .non => some "NoneType"
  | .bl _ => some "bool"
  | .int _ => some "int"
  | .str _ => some "str"
  | .lst _ => some "list"
  | .tup _ => some "tuple"
  | .dct _ => some "dict"
  | _ => none
def isTy (a b : String) : Bool := a == b || (a == "bool" && b == "int")
theorem kit_of_ty {a b : String} (ha : a ∈ ["NoneType", "bool", "int", "str", "list", "tuple", "dict"]) (hb : b ∈ ["bool", "int", "str", "list", "tuple", "dict"]) : kitB a b = some (isTy a b) := by
  simp only [List.mem_cons, List.not_mem_nil, or_false] at ha hb
  rcases ha with rfl | rfl | rfl | rfl | rfl | rfl | rfl <;> rcases hb with rfl | rfl | rfl | rfl | rfl | rfl <;> decide +kernel
theorem D.ty_mem {d : D} {a : String} (h : d.ty = some a) : a ∈ ["NoneType", "bool", "int", "str", "list", "tuple", "dict"] := by
  cases d <;> simp [D.ty] at h <;> subst h <;> simp
theorem Wk.ty {c : Ct} {v : Vo} {g : Gd} {H : Hp} {W : List MO} {u : V} {d : D} {a : String} (o : Ok c v g H W) (h : Wk c v g H u d) (e : d.ty = some a) : TyX c.K H u (.type a) := by
  cases d with
  | non => cases e; cases h.non; exact .base .non
  | bl b => cases e; cases h.bl; exact .base (.bl b)
  | int b => cases e; cases h.int; exact .base (.int b)
  | str b => cases e; cases h.str.1; exact .base (.str b)
  | lst b =>
    cases e
    obtain ⟨p, vs, rfl, z, h, k⟩ := h.lst o
    exact .base (.lst h)
  | tup b =>
    cases e
    obtain ⟨p, vs, rfl, z, h, k, _⟩ := h.tup o
    rcases h with (h | ⟨ob, h⟩) | ⟨ob, its, n, h, hc, _⟩
    · exact .base (.tup h)
    · exact .fTuple h
    · exact .kTuple h hc
  | dct b =>
    cases e
    obtain ⟨p, vs, rfl, z, h, k⟩ := h.dct o
    rcases h with h | ⟨ob, h⟩
    · exact .base (.dK h)
    · exact .fDict h
  | _ => cases e
def eIsi (T : String) (fa : Env → M D) : Env → M D := fun env => bnd (fa env) fun d => match d.ty with
  | some a => ret (.bl (isTy a T))
  | none => fail
def eIsi2 (T U : String) (fa : Env → M D) : Env → M D := fun env => bnd (fa env) fun d => match d.ty with
  | some a => ret (.bl (isTy a T || isTy a U))
  | none => fail
section
variable {X : Cx} {E : XK} {pos p p2 p3 p4 : Pos} {a : Expr} {fa : Env → M D}
theorem je_isi {T : String} {t : Str} (ht : bootBuiltins t = some (.type T)) (hT : T ∈ ["bool", "int", "str", "list", "tuple", "dict"]) (hm : X.mg "isinstance" = none) (hmt : X.mg t = none) (ha : JE X E .wk a fa) (hg : Gl X "isinstance" := by rfl) (hgt : Gl X t := by rfl)
    (hn : t ≠ "__name__" := by decide) (hdb : (t == ("__debug__" : Str)) = false := by decide)
    (he : starEach [a, .Name t p2] X.env = (false, eval a X.env) :: starEach [.Name t p2] X.env := by rfl) : JE X E .st (.Call (.Name "isinstance" p) [a, .Name t p2] [] pos) (eIsi T fa) :=
  ⟨(pe_callB call_isi hg hm (by decide +kernel) (pa_cons ha.pe (pa_cons (pe_bltn (v := .ty T) hgt hmt ht rfl hn hdb) pa_nil) he) (by decide) (by decide) he).imp
    fun σ H Q ⟨v, g, env, W, R, ER, o, eo, hf, x, q⟩ => ⟨v, g, env, W, _, ER, o, eo, hf, x, fun u d g1 H1 W1 h1 m1 o1 w1 => by
      dsimp only at h1
      cases e : d.ty with
      | none => rw [e] at h1; exact h1.elim
      | some b =>
        rw [e] at h1
        exact ⟨u, .ty T, .type b, .type T, _, rfl, .ty T, Wk.ty o1 w1 e, kit_ty (kit_of_ty (D.ty_mem e) hT), (q.mv m1).now o1 h1 (.bl _)⟩⟩⟩
theorem je_isi2 {T U : String} {t u : Str} {x1} (ht : bootBuiltins t = some (.type T)) (hu : bootBuiltins u = some (.type U)) (hT : T ∈ ["bool", "int", "str", "list", "tuple", "dict"]) (hU : U ∈ ["bool", "int", "str", "list", "tuple", "dict"]) (hm : X.mg "isinstance" = none) (hmt : X.mg t = none) (hmu : X.mg u = none)
    (ha : JE X E .wk a fa) (hg : Gl X "isinstance" := by rfl) (hgt : Gl X t := by rfl) (hgu : Gl X u := by rfl) (hn : t ≠ "__name__" := by decide) (hdb : (t == ("__debug__" : Str)) = false := by decide) (hn2 : u ≠ "__name__" := by decide) (hdb2 : (u == ("__debug__" : Str)) = false := by decide)
    (he : starEach [a, .Tuple [.Name t p2, .Name u p3] x1 p4] X.env = (false, eval a X.env) :: starEach [.Tuple [.Name t p2, .Name u p3] x1 p4] X.env := by rfl) : JE X E .st (.Call (.Name "isinstance" p) [a, .Tuple [.Name t p2, .Name u p3] x1 p4] [] pos) (eIsi2 T U fa) :=
  ⟨(pe_callB call_isiT hg hm (by decide +kernel) (pa_cons ha.pe (pa_cons (pe_tup (pa_cons (pe_bltn (v := .ty T) hgt hmt ht rfl hn hdb) (pa_cons (pe_bltn (v := .ty U) hgu hmu hu rfl hn2 hdb2) pa_nil))) pa_nil) he) (by decide) (by decide) he).imp
    fun σ H Q ⟨v, g, env, W, R, ER, o, eo, hf, x, q⟩ => ⟨v, g, env, W, _, ER, o, eo, hf, x, fun u' d g1 H1 W1 h1 m1 o1 w1 => by
      dsimp only at h1
      cases e : d.ty with
      | none => rw [e] at h1; exact h1.elim
      | some b =>
        rw [e] at h1
        refine ⟨by show 2 ≤ sizeLine; decide, fun tp htp => ?_⟩
        obtain ⟨o2, m2⟩ := o1.alloc htp (.tup [.ty T, .ty U])
        refine ⟨u', tp, _, .type b, [.type T, .type U], _, rfl, upd_same, .cons (.ty T) (.cons (.ty U) .nil), Wk.ty o2 (Wk.mono m2 w1) e, ?_, (q.mv (m1.trans m2)).now o2 h1 (.bl _)⟩
        have k1 := kit_ty (K := X.K) (kit_of_ty (D.ty_mem e) hT)
        have k2 := kit_ty (K := X.K) (kit_of_ty (D.ty_mem e) hU)
        refine kitAny_cons k1 (fun z => ?_) (fun z => by rw [z]; rfl)
        refine kitAny_cons k2 (fun z2 => ?_) (fun z2 => by rw [z2, Bool.or_true])
        rw [z, z2]
        exact kitAny_nil⟩⟩
end

/-! ### subscripts, slices -/
def rIxK : R2 := fun x y H Q => ∃ a w, x = .ref a ∧ DGet H a y (some w) ∧ Q w H
theorem ix_dict {X : Cx} (hu : X.A.units + 1 < cLine) : IxR X rIxK := by
  intro value slice pins s σ H x y v u Q I rx ry h hs
  obtain ⟨a, w, rfl, gd, q⟩ := h
  cases rx
  have hT := dict_typeIs I gd
  exact tail_any hT PySem.F.slot_dict_getitem.lookup (d_getItem hu I gd ry fun w' s' I' rw' => ⟨w, H, I', rw', q⟩) hs
def rIxs (K : PySem.W.Frag) : R2 := fun x y H Q => rIx K x y H Q ∨ rIxK x y H Q
theorem ix_all {X : Cx} (hu : X.A.units + 100 < cLine) : IxR X (rIxs X.K) := ix_seq.or (ix_dict (by omega))
def orFail {α : Type} : Option α → M α
  | some a => ret a
  | none => fail
def dIx : D → D → M D
  | .lst xs, .int i => orFail (atI xs i)
  | .tup xs, .int i => orFail (atI xs i)
  | .str s, .int i => orFail ((atI s.cps.toList i).map fun c => .str ⟨#[c]⟩)
  | .dct kvs, k => orFail (k.key.bind (getK kvs))
  | _, _ => fail
section
variable {c : Ct}
theorem atI_rep {r : Addr} {g : Gd} {us : List V} {ds : List D} {i : Int} {d : D} (h : RepAll c r g us ds) (e : atI ds i = some d) : ∃ u, atI us i = some u ∧ Rep c r g u d := by
  unfold atI at e ⊢
  rw [h.length]
  cases q : ixN ds.length i with
  | none => rw [q] at e; cases e
  | some j =>
    rw [q] at e
    exact h.get e
theorem op2_ix : Op2 c .st (rIxs c.K) dIx := by
  intro v g H W R ER Q u w x y o hx hy hf q
  cases x with
  | lst ds =>
    cases y with
    | int i =>
      cases hy.int
      obtain ⟨p, vs, rfl, z, h, k⟩ := hx.lst o
      cases e : atI ds i with
      | none =>
        have hf : orFail (atI ds i) W R ER := hf
        rw [e] at hf
        exact hf.elim
      | some d =>
        have hf : orFail (atI ds i) W R ER := hf
        rw [e] at hf
        obtain ⟨u, e2, r⟩ := atI_rep k e
        exact .inl (.inl ⟨p, vs, i, u, rfl, rfl, SqL.of h, e2, q.now o hf r⟩)
    | _ => exact hf.elim
  | tup ds =>
    cases y with
    | int i =>
      cases hy.int
      obtain ⟨p, vs, rfl, z, h, k, _⟩ := hx.tup o
      cases e : atI ds i with
      | none =>
        have hf : orFail (atI ds i) W R ER := hf
        rw [e] at hf
        exact hf.elim
      | some d =>
        have hf : orFail (atI ds i) W R ER := hf
        rw [e] at hf
        obtain ⟨u, e2, r⟩ := atI_rep k e
        exact .inl (.inr (.inl ⟨p, vs, i, u, rfl, rfl, h, e2, q.now o hf r⟩))
    | _ => exact hf.elim
  | str s =>
    cases y with
    | int i =>
      cases hy.int
      obtain ⟨rfl, z⟩ := hx.str
      cases e : atI s.cps.toList i with
      | none =>
        have hf : orFail ((atI s.cps.toList i).map fun c => D.str ⟨#[c]⟩) W R ER := hf
        rw [e] at hf
        exact hf.elim
      | some d =>
        have hf : orFail ((atI s.cps.toList i).map fun c => D.str ⟨#[c]⟩) W R ER := hf
        rw [e] at hf
        exact .inl (.inr (.inr ⟨s, i, d, rfl, rfl, z, e, q.now o hf (.str _ (by show 1 ≤ sizeLine; decide))⟩))
    | _ => exact hf.elim
  | dct kvs =>
    obtain ⟨p, vs, rfl, z, h, k⟩ := hx.dct o
    have hf : orFail (y.key.bind (getK kvs)) W R ER := by cases y <;> exact hf
    cases e : y.key with
    | none => rw [e] at hf; exact hf.elim
    | some kk =>
      rw [e, Option.bind_some] at hf
      cases e2 : getK kvs kk with
      | none => rw [e2] at hf; exact hf.elim
      | some d =>
        rw [e2] at hf
        obtain ⟨u, e3, r⟩ := k.some e2
        cases hy.key e
        refine .inr ⟨p, u, rfl, ?_, q.now o hf r⟩
        rw [← e3]
        exact DGet.rd h
  | _ => cases y <;> exact hf.elim
end
section
variable {X : Cx} {E : XK} {pos p2 : Pos} {a b : Expr} {fa fb fc : Env → M D}
theorem je_ix (hu : X.A.units + 100 < cLine) (ha : JE X E .wk a fa) (hb : JE X E .wk b fb) (hs : PlainIx b := by exact fun _ _ => rfl) : JE X E .st (.Subscript a b pos) (e2 dIx fa fb) := ⟨(pe_ix (ix_all hu) ha.pe hb.pe hs).imp (tOp_of op2_ix)⟩
/-- parts of slices -/
def tP (c : Ct) (E : XK) (f : Env → M (Option Int)) : TO := fun σ H Q => ∃ v g env W R ER, Ok c v g H W ∧ EnvOk c v g H σ env ∧ f env W R ER ∧ XW c v g H E ER ∧ ∀ i g' H' W', R i W' → Gr v g H g' H' → Ok c v g' H' W' → Q i H'
structure JP (X : Cx) (E : XK) (e : Option Expr) (f : Env → M (Option Int)) : Prop where
  po : PO X e (tP (Cx.ct X) E f)
theorem _root_.L2.PO.imp {X : Cx} {e : Option Expr} {t t' : TO} (h : PO X e t) (k : ∀ σ H Q, t' σ H Q → t σ H Q) : PO X e t' := ⟨fun pins s σ H Q I q => h.run pins s σ H Q I (k σ H Q q)⟩
def pN : Env → M (Option Int) := fun _ => ret none
def pS (f : Env → M D) : Env → M (Option Int) := fun env => bnd (f env) fun d => match d with
  | .int i => ret (some i)
  | _ => fail
theorem jp_n : JP X E none pN := ⟨po_none.imp fun σ H Q ⟨v, g, env, W, R, ER, o, eo, hf, x, q⟩ => q none g H W hf (Gr.refl v g H) o⟩
theorem jp_s (ha : JE X E .st a fa) : JP X E (some a) (pS fa) := ⟨(po_some ha.pe).imp fun σ H Q ⟨v, g, env, W, R, ER, o, eo, hf, x, q⟩ => ⟨v, g, env, W, _, ER, o, eo, hf, x, fun u d g1 H1 W1 h1 m1 o1 w1 => by
  cases d with
  | int i =>
    cases w1
    exact ⟨i, rfl, q (some i) g1 H1 W1 h1 m1 o1⟩
  | _ => exact h1.elim⟩⟩
def cutD (xs : List D) (lo hi : Option Int) : List D := (xs.drop (HT.sIx xs.length 0 lo)).take (HT.sIx xs.length xs.length hi - HT.sIx xs.length 0 lo)
theorem cut_rep {c : Ct} {r : Addr} {g : Gd} {us : List V} {ds : List D} {lo hi : Option Int} (h : RepAll c r g us ds) : RepAll c r g (cutV us lo hi) (cutD ds lo hi) := by
  unfold cutV cutD
  rw [h.length]
  exact (h.drop _).take _
def dSl (d : D) (lo hi : Option Int) : M D := match d with
  | .lst xs => ret (.lst (cutD xs lo hi))
  | .tup xs => ret (.tup (cutD xs lo hi))
  | .str s => ret (.str (cutS s lo hi))
  | _ => fail
def dSlL (d : D) (lo hi : Option Int) : M D := match d with
  | .lst xs => ret (.lst (cutD xs lo hi))
  | _ => fail
def eSl (F : D → Option Int → Option Int → M D) (fa : Env → M D) (f1 f2 : Env → M (Option Int)) : Env → M D := fun env => bnd (fa env) fun d => bnd (f1 env) fun lo => bnd (f2 env) fun hi => F d lo hi
def SlOp (c : Ct) (k : Kd) (r : V → Option Int → Option Int → Hp → VK → Prop) (F : D → Option Int → Option Int → M D) : Prop :=
  ∀ (v : Vo) (g : Gd) (H : Hp) (W : List MO) (R : D → List MO → Prop) (ER : Exn → List MO → Prop) (Q : VK) (u : V) (x : D) (lo hi : Option Int), Ok c v g H W → Wk c v g H u x → F x lo hi W R ER → Cont c v k g H R Q → r u lo hi H Q
def rSls (K : PySem.W.Frag) : V → Option Int → Option Int → Hp → VK → Prop := fun x lo hi H Q => rSlL K x lo hi H Q ∨ rSlA K x lo hi H Q ∨ rSlS x lo hi H Q
theorem sl_all {X : Cx} : SlR X (rSls X.K) := sl_list.or (sl_tupA.or sl_str)
theorem slop_list {c : Ct} : SlOp c .fr (rSlL c.K) dSlL := by
  intro v g H W R ER Q u x lo hi o hx hf q
  cases x with
  | lst ds =>
    obtain ⟨p, vs, rfl, z, h, k⟩ := hx.lst o
    exact ⟨p, vs, rfl, SqL.of h, q.newL o hf (Nat.le_trans (cutV_length vs lo hi) z) (cut_rep k)⟩
  | _ => exact hf.elim
theorem cutD_all (ds : List D) {lo hi : Option Int} (h : HT.sIx ds.length 0 lo = 0 ∧ HT.sIx ds.length ds.length hi = ds.length) : cutD ds lo hi = ds := by
  unfold cutD
  rw [h.1, h.2]
  simp
theorem slop_all {c : Ct} : SlOp c .st (rSls c.K) dSl := by
  intro v g H W R ER Q u x lo hi o hx hf q
  cases x with
  | lst ds => exact .inl (slop_list v g H W R ER Q u _ lo hi o hx hf q.frOf)
  | tup ds =>
    obtain ⟨p, vs, rfl, z, h, k, s⟩ := hx.tup o
    refine .inr (.inl ⟨p, vs, rfl, h, fun e => ?_, fun e => ?_⟩)
    · rw [k.length] at e
      have hf : R (.tup (cutD ds lo hi)) W := hf
      rw [cutD_all ds e] at hf
      exact q.now o hf s
    · exact q.newT o hf (Nat.le_trans (cutV_length vs lo hi) z) (cut_rep k)
  | str s =>
    obtain ⟨rfl, z⟩ := hx.str
    exact .inr (.inr ⟨s, rfl, z, q.now o hf (.str _ (Nat.le_trans (cutS_length s lo hi) z))⟩)
  | _ => exact hf.elim
theorem je_slice {k : Kd} {r : V → Option Int → Option Int → Hp → VK → Prop} {F : D → Option Int → Option Int → M D} {lo hi : Option Expr} {f1 f2 : Env → M (Option Int)} (hr : SlR X r) (hF : SlOp (Cx.ct X) k r F) (ha : JE X E .wk a fa) (h1 : JP X E lo f1) (h2 : JP X E hi f2) :
    JE X E k (.Subscript a (.Slice lo hi none p2) pos) (eSl F fa f1 f2) :=
  ⟨(pe_slice hr ha.pe h1.po h2.po).imp fun σ H Q ⟨v, g, env, W, R, ER, o, eo, hf, x, q⟩ => ⟨v, g, env, W, _, ER, o, eo, hf, x, fun u d g1 H1 W1 h1 m1 o1 w1 =>
    ⟨v, g1, env, W1, _, ER, o1, eo.mono m1, h1, x.mv m1, fun i g2 H2 W2 h2 m2 o2 =>
      ⟨v, g2, env, W2, _, ER, o2, eo.mono (m1.trans m2), h2, x.mv (m1.trans m2), fun j g3 H3 W3 h3 m3 o3 =>
        hF v g3 H3 W3 R ER Q u d i j o3 (Wk.mono (m2.trans m3) w1) h3 (q.mv ((m1.trans m2).trans m3))⟩⟩⟩⟩
end
end Y

set_option maxRecDepth 100000
set_option maxHeartbeats 2000000
namespace Y
open PySem PySem.Spec PyProof.Rows L2

/-! ### enumerate over a tuple -/
section
open Sem (wp)
theorem enumN_T (t : Addr) (items : Array Value) :
    Meets (Builtin.«enumerate.__new__» ⟨[.type "enumerate", .ref t], []⟩) (fun _ R s => s.heap.IsTuple t items ∧
      R (.ok (.ret (.ref (s.heap.push { cls := .type "tuple_iterator", data := .fields #[.ref t, .int 0 0] }).objs.size)))
        { s with heap := (s.heap.push { cls := .type "tuple_iterator", data := .fields #[.ref t, .int 0 0] }).push { cls := .type "enumerate", data := .fields #[.none, .bool false, .ref s.heap.objs.size, rawInt 0, .none, .none] } }) :=
  .of_wp fun prog w A R s h => by
    obtain ⟨hp, gg, dd, tk, os⟩ := s
    obtain ⟨h1, h⟩ := h
    have hsub := sub_enumerate
    have q1 : ∀ {A2 : Around} {E Q : Value → Shared → Prop}, Q (.ref hp.objs.size) ⟨hp.push { cls := .type "tuple_iterator", data := .fields #[.ref t, .int 0 0] }, gg, dd, tk, os⟩ → wpAny (model prog w) A2 (pyIter (.ref t)) Q E ⟨hp, gg, dd, tk, os⟩ :=
      fun q => wpAny_pyIter_tuple h1 q
    wp_walk using q1
    refine wpAny_stack_any fun st => wpAny_pure ?_
    split
    · rename_i c0 _ _ _ _ _
      cases (c0 == Value.type "enumerate")
      all_goals (wp_walk using q1; exact ⟨_, rfl, h⟩)
    · wp_walk using q1
      exact ⟨_, rfl, h⟩
theorem enum_tup {prog : Program} {w : World} {A : Around} {E : Value → Shared → Prop} {s : Shared} {t : Addr} {items : Array Value} {Q : Value → Shared → Prop} (hT : s.heap.IsTuple t items)
    (h : ∀ h2, IsEnum h2 (s.heap.objs.size + 1) s.heap.objs.size 0 .none → h2.IsTupleIter s.heap.objs.size t 0 → (∀ b o, s.heap.get? b = some o → h2.get? b = some o) → Q (.ref (s.heap.objs.size + 1)) { s with heap := h2 }) :
    wpAny (model prog w) A (call (.type "enumerate") [.ref t]) Q E s := by
  have z1 : ∀ o, (s.heap.push o).objs.size = s.heap.objs.size + 1 := fun o => Heap.size_push ..
  have he : ∀ o o2 : Obj, o2.isFreed = false → ((s.heap.push o).push o2).get? (s.heap.objs.size + 1) = some o2 := fun o o2 hf => by
    have q := Heap.get?_push_size (s.heap.push o) (o := o2) hf
    rwa [z1 o] at q
  refine callType_new F.called_enumerate (by decide) (F.typeCall_enumerate_1 _) (F.newCall_enumerate_1 _) (fun obj => F.args_object_init_2 obj _) F.entry_enumerate_new (enumN_T t items) ⟨hT, ?_⟩
  rw [z1]
  exact ⟨⟨_, he _ _ rfl, rfl⟩, h _ (he _ _ rfl) ⟨_, Heap.get?_push_of_some _ (Heap.get?_push_size _ rfl), rfl, rfl⟩ fun b o x => Heap.get?_push_of_some _ (Heap.get?_push_of_some _ x)⟩
end
def ItU (K : PySem.W.Frag) (a : Addr) : It :=
  ⟨fun i H => ∃ (xs : List V) (x : V), SqT K H a xs ∧ xs[i]? = some x, fun i H u H2 => ∃ p x, u = .ref p ∧ H p = none ∧ H2 = upd H p (.tup [.int (i : Nat), x]) ∧ ∀ xs, SqT K H a xs → xs[i]? = some x, fun i H => ∃ xs : List V, SqT K H a xs ∧ xs.length ≤ i⟩
theorem turn_U {P : Program} {w : World} {K : PySem.W.Frag} {elts : List Expr} {kk : Nat} {tpos : Pos} (a e it : Addr) :
    Turn P w K (.Tuple elts kk tpos) (ItU K a) [e, it] e (fun i h => (∃ old, IsEnum h e it ((i : Nat) : Int) old) ∧ h.IsTupleIter it a i ∧ e ≠ it) where
  mem := List.mem_cons_self
  obj := fun i h ⟨⟨old, he⟩, ⟨o, ho, hc, hd⟩, _⟩ b hb => by
    rcases List.mem_cons.mp hb with rfl | hb
    · exact ⟨_, he, fun v q => nomatch q⟩
    · cases List.mem_singleton.mp hb
      exact ⟨o, ho, fun v q => by rw [hd] at q; cases q⟩
  keep := fun i h h2 ⟨⟨old, he⟩, hi, hne⟩ k => ⟨⟨old, k e List.mem_cons_self _ he⟩, hi.at fun o q => k it (List.mem_cons_of_mem _ (List.mem_singleton.mpr rfl)) o q, hne⟩
  item := by
    intro X hP hw hK hc i pins s σ H E I hf ⟨⟨old, he⟩, hit, hne⟩ ⟨xs, x, hq, hx⟩
    subst hP hw hK
    obtain ⟨its, rv, p, hz⟩ := I.tuple hq
    have p : s.heap.IsTuple a its.toArray := p
    obtain ⟨u, hu, ru⟩ := rv.get hx
    have hel := Heap.lt_size he
    obtain ⟨oi, ei, _⟩ := id hit
    have hil := Heap.lt_size ei
    obtain ⟨ot, et, ct, _⟩ := id p
    have hat : a ≠ it := fun z => by
      obtain ⟨o2, e2, c2, _⟩ := id hit
      rw [z] at et
      rw [et] at e2
      cases e2
      rw [ct] at c2
      exact absurd c2 (by decide)
    have hae : e ≠ a := fun z => by
      rw [← z] at et
      have e2 : s.heap.get? e = some _ := he
      rw [et] at e2
      cases e2
      exact absurd (show Value.type "enumerate" = Value.type "tuple" from ct) (by decide)
    have D := Draws.tuple (prog := X.prog) (w := X.w) (A := X.A.in1) (I.ok.hd hc) it a hat its.toArray
    have hlt : i < its.toArray.size := by
      have l1 := rv.length
      obtain ⟨h3, _⟩ := List.getElem?_eq_some_iff.mp hx
      rw [List.size_toArray]
      omega
    refine wpAny_pyNext_enum_itemD D he ⟨hit, p⟩ hlt hne (fun z => by
      rcases List.mem_cons.mp z with z | z
      · exact hne z
      · exact hae (List.mem_singleton.mp z)) fun y h2 tk hy ho hs hT hsz hk => ?_
    have ey : y = u := by
      rw [List.getElem?_toArray, hu] at hy
      exact (Option.some.inj hy).symm
    subst ey
    refine ⟨_, rfl, wpAny_letOwnedTupleGo_enum (s := { s with heap := h2, toks := tk + 1 }) ho fun h3 he3 sb => ?_⟩
    have hT2 : h3.get? s.heap.objs.size = some { cls := .type "tuple", data := .seq #[.int i tk, y] } := (sb.2 _ (Nat.ne_of_gt hel)).trans hT
    have new : ObjOk X.prog X.w (upd H s.heap.objs.size (.tup [.int (i : Nat), x])) h3 s.heap.objs.size (.tup [.int (i : Nat), x]) := ⟨by show 2 ≤ sizeLine; decide, [_, y], .cons ⟨_, rfl⟩ (.cons ru .nil), ⟨_, hT2, rfl, _, rfl⟩⟩
    have I1 : Inv X pins σ (upd H s.heap.objs.size (.tup [.int (i : Nat), x])) { s with heap := h3, toks := tk + 1 } := I.turnedNew (ch := [e, it]) (fun b ob hb q => by
      have n1 : b ≠ e := fun z => hb (by rw [z]; exact List.mem_cons_self)
      have n2 : b ≠ it := fun z => hb (by rw [z]; exact List.mem_cons_of_mem _ (List.mem_singleton.mpr rfl))
      exact (sb.2 b n1).trans (hk b ob n1 n2 q)) hf (Nat.le_refl _) new
    refine ⟨.ref s.heap.objs.size, _, I1, rfl, ⟨_, x, rfl, I.hok.fresh (Nat.le_refl _), rfl, fun ys hy => by rw [I.tuple_inj hy hq]; exact hx⟩, ⟨⟨y, ?_⟩, hs.1.at fun o q => (sb.2 it (Ne.symm hne)).trans q, hne⟩, fun b hb => ?_⟩
    · rw [show ((i + 1 : Nat) : Int) = (i : Int) + 1 by omega]
      exact he3
    · have hb3 : b < s.heap.objs.size := by
        rcases List.mem_cons.mp hb with z | z
        · rw [z]; exact hel
        · rw [List.mem_singleton.mp z]; exact hil
      rw [upd_ne (Nat.ne_of_lt hb3)]
      exact (hf b hb).1
  done := by
    intro X hP hw hK hc i pins s σ H E I hf ⟨⟨old, he⟩, hit, hne⟩ ⟨xs, hq, hx⟩
    subst hP hw hK
    obtain ⟨its, rv, p, hz⟩ := I.tuple hq
    have p : s.heap.IsTuple a its.toArray := p
    have l1 := rv.length
    obtain ⟨f0, f1, f2, f3, f4, f5⟩ := hf it (List.mem_cons_of_mem _ (List.mem_singleton.mpr rfl))
    obtain ⟨ot, et, ct, _⟩ := id p
    refine wpAny_bind (wpAny_attempt (wpAny_callSpecial?_slot (name := Str.ofString "__next__") (⟨_, he, rfl⟩ : s.TypeIs (.ref e) "enumerate") F.slot_enumerate_next
      (wpAny_call_entry F.slot_enumerate_next (⟨_, he, rfl⟩ : s.TypeIs (.ref e) "enumerate") F.entry_enumerate_next ?_ (F.args_enumerate_next_1 _))))
    show wpAny _ _ (field (.ref e) 2 >>= _) _ _ _
    refine wpAny_bind (wpAny_field he rfl (x := .ref it) rfl ?_)
    refine wpAny_bind (wpAny_nextOf_tuple_end (A := X.A.in1) (I.ok.hd hc) hit p (by rw [List.getElem?_toArray]; exact List.getElem?_eq_none (by omega)) fun h2 e2 hx2 he2 => ?_)
    obtain ⟨o2, ho2, hc2⟩ := he2
    refine wpAny_bind (wpAny_isInstance (T := "StopIteration") (b := true) ⟨o2, ho2, hc2⟩ isSubtype_stop ?_)
    exact wpAny_pure ⟨rfl, I.turned (t' := s.toks) (fun b o hb q => hx2 b o hb q) f0 f1 f3 f4 f5⟩
  self := fun A i s Q E ⟨⟨_, he⟩, _⟩ h => wpAny_pyIter_enum he h
end Y

set_option maxRecDepth 100000
set_option maxHeartbeats 2000000
namespace Y
open PySem PySem.Spec PyProof.Rows L2

/-! ### sources -/
abbrev Rl (b : Bool) (v : Vo) (g1 : Gd) (H1 : Hp) (g : Gd) (H : Hp) : Prop := match b with
  | true => GLe g1 g
  | false => Gr v g1 H1 g H
structure SrcOk (c : Ct) (v : Vo) (b : Bool) (g1 : Gd) (H1 : Hp) (J : It) (ds : List D) : Prop where
  z : ds.length ≤ sizeLine
  w : ∃ (G : Hp → Prop) (Yt : Nat → Hp → V → Hp → Prop), Walk J ds.length G Yt ∧ (∀ g H W, Rl b v g1 H1 g H → Ok c v g H W → G H) ∧
    ∀ i H x H' g W, Rl b v g1 H1 g H → Ok c v g H W → i < ds.length → Yt i H x H' → ∃ g' d, ds[i]? = some d ∧ Gr v g H g' H' ∧ Ok c v g' H' W ∧ Rep c v.rw g' x d
def tI (c : Ct) (E : XK) (b : Bool) (f : Env → M (List D)) : TI := fun σ H R => ∃ v g env W Rr ER, Ok c v g H W ∧ EnvOk c v g H σ env ∧ f env W Rr ER ∧ XW c v g H E ER ∧
  ∀ ds g' H' W' J, Rr ds W' → Gr v g H g' H' → Ok c v g' H' W' → SrcOk c v b g' H' J ds → R J H'
structure JI (X : Cx) (E : XK) (b : Bool) (tg e : Expr) (f : Env → M (List D)) : Prop where
  pi : PI X tg e (tI (Cx.ct X) E b f)
theorem _root_.L2.PI.imp {X : Cx} {tg e : Expr} {t t' : TI} (h : PI X tg e t) (k : ∀ σ H Q, t' σ H Q → t σ H Q) : PI X tg e t' := ⟨fun pins s σ H Q I q => h.run pins s σ H Q I (k σ H Q q)⟩
theorem SrcOk.weak {c : Ct} {v : Vo} {g1 : Gd} {H1 : Hp} {J : It} {ds : List D} (h : SrcOk c v true g1 H1 J ds) : SrcOk c v false g1 H1 J ds :=
  ⟨h.z, let ⟨G, Yt, a, b, d⟩ := h.w; ⟨G, Yt, a, fun g H W r o => b g H W r.le o, fun i H x H' g W r o => d i H x H' g W r.le o⟩⟩
theorem JI.weak {X : Cx} {E : XK} {tg e : Expr} {f : Env → M (List D)} (h : JI X E true tg e f) : JI X E false tg e f :=
  ⟨h.pi.imp fun σ H Q ⟨v, g, env, W, R, ER, o, eo, hf, x, q⟩ => ⟨v, g, env, W, R, ER, o, eo, hf, x, fun ds g' H' W' J r m o' s => q ds g' H' W' J r m o' s.weak⟩⟩

/-- lists, tuples, signs -/
def iAny (K : PySem.W.Frag) (tl : TE) : TI := fun σ H R => tl σ H fun x H1 => (∃ a xs, x = .ref a ∧ SqL K H1 a xs ∧ R (Itl K a) H1) ∨ (∃ a xs, x = .ref a ∧ SqT K H1 a xs ∧ R (Itt K a) H1) ∨ ∃ s, x = .str s ∧ R (Its s) H1
theorem pi_any {X : Cx} {tg e : Expr} {tl : TE} (he : PE X e tl) : PI X tg e (iAny X.K tl) := ⟨fun pins s σ H R I h => by
  refine thn (he.run pins s σ H _ I h) fun u s1 ⟨x, H1, I1, r1, q1⟩ => ?_
  rcases q1 with ⟨a, xs, rfl, hq, q⟩ | ⟨a, xs, rfl, hq, q⟩ | ⟨z, rfl, q⟩
  · cases r1
    obtain ⟨its, _, p, _⟩ := I1.list hq
    exact wpAny_pyIter_list p.isList (pi_one (tk := s1.toks) I1 _ (turn_list a _) ⟨_, Heap.get?_push_size _ rfl, rfl, rfl⟩ q)
  · cases r1
    obtain ⟨its, _, p, _⟩ := I1.tuple hq
    exact wpAny_pyIter_tuple (show s1.heap.IsTuple a its.toArray from p) (pi_one (tk := s1.toks) I1 _ (turn_tuple a _) ⟨_, Heap.get?_push_size _ rfl, rfl, rfl⟩ q)
  · obtain ⟨t, rfl⟩ := r1
    cases ha : z.cps.all (· < 128)
    · exact wpAny_pyIter_wide ha (pi_one (tk := s1.toks) I1 _ (turn_str _ z t "str_iterator" (.inr rfl)) ⟨_, Heap.get?_push_size _ rfl, rfl, rfl⟩ q)
    · exact wpAny_pyIter_ascii ha (pi_one (tk := s1.toks) I1 _ (turn_str _ z t "str_ascii_iterator" (.inl rfl)) ⟨_, Heap.get?_push_size _ rfl, rfl, rfl⟩ q)⟩
def D.its : D → Option (List D)
  | .lst xs => some xs
  | .tup xs => some xs
  | .str s => some (s.cps.toList.map fun c => .str ⟨#[c]⟩)
  | _ => none
def iSeq (f : Env → M D) : Env → M (List D) := fun env => bnd (f env) fun d => match d.its with
  | some ds => ret ds
  | none => fail
section
variable {c : Ct} {v : Vo} {g : Gd} {H : Hp} {W : List MO}
theorem RepAll.at {r : Addr} : ∀ {us : List V} {ds : List D}, RepAll c r g us ds → ∀ {i : Nat} {u : V}, us[i]? = some u → ∃ d, ds[i]? = some d ∧ Rep c r g u d
  | _, _, .nil, _, _, e => by cases e
  | _, _, .cons h t, 0, _, e => by cases e; exact ⟨_, rfl, h⟩
  | _, _, .cons h t, i + 1, _, e => RepAll.at t (i := i) e
theorem srcL {a : Addr} {xs : List V} {ds : List D} (z : xs.length ≤ sizeLine) (h : g.B a = some (.lst xs)) (k : RepAll c v.rw g xs ds) : SrcOk c v true g H (Itl c.K a) ds where
  z := by rw [← k.length]; exact z
  w := ⟨fun H => SqL c.K H _ _, YAt xs, by rw [← k.length]; exact walk_list, fun g' H' W' r o => SqL.of (o.bh _ _ (r.b _ _ h)), fun i H x H' g' W' r o hi ⟨e, hx⟩ => by
    subst e
    obtain ⟨d, e1, k1⟩ := k.at hx
    exact ⟨g', d, e1, Gr.refl _ _ _, o, k1.mono r⟩⟩
theorem srcT {a : Addr} {xs : List V} {ds : List D} (z : xs.length ≤ sizeLine) (h : SqT c.K g.B a xs) (k : RepAll c v.rw g xs ds) : SrcOk c v true g H (Itt c.K a) ds where
  z := by rw [← k.length]; exact z
  w := ⟨fun H => SqT c.K H _ _, YAt xs, by rw [← k.length]; exact walk_tup, fun g' H' W' r o => SqT.le o.bh (SqT.le r.b h), fun i H x H' g' W' r o hi ⟨e, hx⟩ => by
    subst e
    obtain ⟨d, e1, k1⟩ := k.at hx
    exact ⟨g', d, e1, Gr.refl _ _ _, o, k1.mono r⟩⟩
theorem srcS {s : Str} (z : s.length ≤ sizeLine) : SrcOk c v true g H (Its s) (s.cps.toList.map fun c => .str ⟨#[c]⟩) where
  z := by rw [List.length_map, Array.length_toList]; exact z
  w := ⟨fun _ => True, fun i H u H' => H' = H ∧ ∃ c, s.cps[i]? = some c ∧ u = .str ⟨#[c]⟩, by rw [List.length_map, Array.length_toList]; exact walk_str, fun g' H' W' r o => True.intro, fun i H x H' g' W' r o hi ⟨e, cc, e1, e2⟩ => by
    subst e
    subst e2
    refine ⟨g', .str ⟨#[cc]⟩, ?_, Gr.refl _ _ _, o, .str _ (by show 1 ≤ sizeLine; decide)⟩
    rw [List.getElem?_map, Array.getElem?_toList, e1]
    rfl⟩
theorem srcO {p : Addr} {vs : List V} {ds : List D} (z : vs.length ≤ sizeLine) (hv : ¬ v.vol p) (ha : p ∉ g.al) (h : H p = some (.lst vs)) (k : RepAll c v.rw g vs ds) : SrcOk c v false g H (Itl c.K p) ds where
  z := by rw [← k.length]; exact z
  w := ⟨fun H => SqL c.K H _ _, YAt vs, by rw [← k.length]; exact walk_list, fun g' H' W' r o => SqL.of (r.hL h hv ha), fun i H x H' g' W' r o hi ⟨e, hx⟩ => by
    subst e
    obtain ⟨d, e1, k1⟩ := k.at hx
    exact ⟨g', d, e1, Gr.refl _ _ _, o, k1.mono r.le⟩⟩
theorem srcR {lo : Int} {n : Nat} (z : n ≤ sizeLine) : SrcOk c v true g H (Itr lo n) ((List.range n).map fun (i : Nat) => .int (lo + (i : Int))) where
  z := by rw [List.length_map, List.length_range]; exact z
  w := ⟨fun _ => True, YFn fun i => .int (lo + (i : Int)), by rw [List.length_map, List.length_range]; exact walk_range, fun g' H' W' r o => True.intro, fun i H x H' g' W' r o hi ⟨e, e2⟩ => by
    subst e
    subst e2
    rw [List.length_map, List.length_range] at hi
    exact ⟨g', .int (lo + (i : Int)), by rw [List.getElem?_map, List.getElem?_range hi]; rfl, Gr.refl _ _ _, o, .int _⟩⟩
theorem srcC {lo st : Int} {n : Nat} (z : n ≤ sizeLine) : SrcOk c v true g H (Itc lo st n) ((List.range n).map fun (i : Nat) => .int (lo + (i : Int) * st)) where
  z := by rw [List.length_map, List.length_range]; exact z
  w := ⟨fun _ => True, YFn fun i => .int (lo + (i : Int) * st), by rw [List.length_map, List.length_range]; exact walk_rangeC, fun g' H' W' r o => True.intro, fun i H x H' g' W' r o hi ⟨e, e2⟩ => by
    subst e
    subst e2
    rw [List.length_map, List.length_range] at hi
    exact ⟨g', .int (lo + (i : Int) * st), by rw [List.getElem?_map, List.getElem?_range hi]; rfl, Gr.refl _ _ _, o, .int _⟩⟩
/-- a new pair -/
theorem pairT {x y : V} {d e : D} (o : Ok c v g H W) {p : Addr} (hp : H p = none) (hx : Rep c v.rw g x d) (hy : Rep c v.rw g y e) : ∃ g', Gr v g H g' (upd H p (.tup [x, y])) ∧ Ok c v g' (upd H p (.tup [x, y])) W ∧ Rep c v.rw g' (.ref p) (.tup [d, e]) := by
  obtain ⟨h1, h2, h3⟩ := o.newp hp
  obtain ⟨o1, m1⟩ := o.alloc hp (.tup [x, y])
  obtain ⟨o2, m2, gl⟩ := o1.freeze m1 (upd_same) h1 h2 h3 (old_none hp)
  exact ⟨_, m2, o2, .tup (by show 2 ≤ sizeLine; decide) (SqT.of (upd_same)) (.cons (hx.mono gl) (.cons (hy.mono gl) .nil))⟩
def enumD (ds : List D) : List D := ds.zipIdx.map fun p => .tup [.int (p.2 : Nat), p.1]
theorem enumD_len (ds : List D) : (enumD ds).length = ds.length := by rw [enumD, List.length_map, List.length_zipIdx]
theorem enumD_at {ds : List D} {i : Nat} {d : D} (h : ds[i]? = some d) : (enumD ds)[i]? = some (.tup [.int (i : Nat), d]) := by
  rw [enumD, List.getElem?_map, List.getElem?_zipIdx, h]
  simp
theorem srcEL {a : Addr} {xs : List V} {ds : List D} (z : xs.length ≤ sizeLine) (h : g.B a = some (.lst xs)) (k : RepAll c v.rw g xs ds) : SrcOk c v true g H (Ite c.K a) (enumD ds) where
  z := by rw [enumD_len, ← k.length]; exact z
  w := ⟨fun H => SqL c.K H _ _, YPair (fun i => some (.int (i : Nat))) (fun i => xs[i]?), by rw [enumD_len, ← k.length]; exact walk_enum, fun g' H' W' r o => SqL.of (o.bh _ _ (r.b _ _ h)), fun i H x H' g' W' r o hi ⟨p, x1, x2, e1, e2, e3, e4, e5⟩ => by
    subst e1
    subst e3
    cases e4
    obtain ⟨d, e6, k1⟩ := k.at e5
    obtain ⟨g2, m2, o2, r2⟩ := pairT o e2 (.int (i : Nat)) (k1.mono r)
    exact ⟨g2, _, enumD_at e6, m2, o2, r2⟩⟩
theorem srcEO {p : Addr} {vs : List V} {ds : List D} (z : vs.length ≤ sizeLine) (hv : ¬ v.vol p) (ha : p ∉ g.al) (h : H p = some (.lst vs)) (k : RepAll c v.rw g vs ds) : SrcOk c v false g H (Ite c.K p) (enumD ds) where
  z := by rw [enumD_len, ← k.length]; exact z
  w := ⟨fun H => SqL c.K H _ _, YPair (fun i => some (.int (i : Nat))) (fun i => vs[i]?), by rw [enumD_len, ← k.length]; exact walk_enum, fun g' H' W' r o => SqL.of (r.hL h hv ha), fun i H x H' g' W' r o hi ⟨p, x1, x2, e1, e2, e3, e4, e5⟩ => by
    subst e1
    subst e3
    cases e4
    obtain ⟨d, e6, k1⟩ := k.at e5
    obtain ⟨g2, m2, o2, r2⟩ := pairT o e2 (.int (i : Nat)) (k1.mono r.le)
    exact ⟨g2, _, enumD_at e6, m2, o2, r2⟩⟩
theorem walk_U {K : PySem.W.Frag} {a : Addr} {xs : List V} : Walk (ItU K a) xs.length (fun H => SqT K H a xs) (YPair (fun i => some (.int (i : Nat))) (fun i => xs[i]?)) :=
  ⟨fun i _ hi q => ⟨xs, xs[i], q, by simp [hi]⟩, fun _ q => ⟨xs, q, Nat.le_refl _⟩, fun i H u H2 _ q ⟨p, x, e1, e2, e3, e4⟩ => ⟨p, .int (i : Nat), x, e1, e2, e3, rfl, e4 xs q⟩⟩
theorem srcET {a : Addr} {xs : List V} {ds : List D} (z : xs.length ≤ sizeLine) (h : SqT c.K g.B a xs) (k : RepAll c v.rw g xs ds) : SrcOk c v true g H (ItU c.K a) (enumD ds) where
  z := by rw [enumD_len, ← k.length]; exact z
  w := ⟨fun H => SqT c.K H _ _, YPair (fun i => some (.int (i : Nat))) (fun i => xs[i]?), by rw [enumD_len, ← k.length]; exact walk_U, fun g' H' W' r o => SqT.le o.bh (SqT.le r.b h), fun i H x H' g' W' r o hi ⟨p, x1, x2, e1, e2, e3, e4, e5⟩ => by
    subst e1
    subst e3
    cases e4
    obtain ⟨d, e6, k1⟩ := k.at e5
    obtain ⟨g2, m2, o2, r2⟩ := pairT o e2 (.int (i : Nat)) (k1.mono r)
    exact ⟨g2, _, enumD_at e6, m2, o2, r2⟩⟩
end
section
variable {X : Cx} {E : XK} {tg e e1 e2 e3 : Expr} {f : Env → M D} {fs : Env → M (List D)} {p pos tpos : Pos} {elts : List Expr} {kk : Nat}
theorem ji_seq (h : JE X E .st e f) : JI X E true tg e (iSeq f) := ⟨(pi_any h.pe).imp fun σ H Q ⟨v, g, env, W, R, ER, o, eo, hf, x, q⟩ => ⟨v, g, env, W, _, ER, o, eo, hf, x, fun u d g1 H1 W1 h1 m1 o1 w1 => by
  have w1 : Rep (Cx.ct X) v.rw g1 u d := w1
  cases w1 with
  | lst z h k => exact .inl ⟨_, _, rfl, SqL.of (o1.bh _ _ h), q _ g1 H1 W1 _ h1 m1 o1 (srcL z h k)⟩
  | tup z h k => exact .inr (.inl ⟨_, _, rfl, SqT.le o1.bh h, q _ g1 H1 W1 _ h1 m1 o1 (srcT z h k)⟩)
  | str s z => exact .inr (.inr ⟨_, rfl, q _ g1 H1 W1 _ h1 m1 o1 (srcS z)⟩)
  | _ => exact h1.elim⟩⟩
theorem ji_seqW (h : JE X E .wk e f) : JI X E false tg e (iSeq f) := ⟨(pi_any h.pe).imp fun σ H Q ⟨v, g, env, W, R, ER, o, eo, hf, x, q⟩ => ⟨v, g, env, W, _, ER, o, eo, hf, x, fun u d g1 H1 W1 h1 m1 o1 w1 => by
  rcases w1 with w1 | ⟨a, rfl, hB, ha, hv, w1⟩
  · cases w1 with
    | lst z h k => exact .inl ⟨_, _, rfl, SqL.of (o1.bh _ _ h), q _ g1 H1 W1 _ h1 m1 o1 (srcL z h k).weak⟩
    | tup z h k => exact .inr (.inl ⟨_, _, rfl, SqT.le o1.bh h, q _ g1 H1 W1 _ h1 m1 o1 (srcT z h k).weak⟩)
    | str s z => exact .inr (.inr ⟨_, rfl, q _ g1 H1 W1 _ h1 m1 o1 (srcS z).weak⟩)
    | _ => exact h1.elim
  · cases d with
    | lst ds =>
      obtain ⟨vs, z, h, k⟩ := w1
      exact .inl ⟨_, vs, rfl, SqL.of h, q _ g1 H1 W1 _ h1 m1 o1 (srcO z hv ha h k)⟩
    | dct ds => exact h1.elim
    | _ => exact w1.elim⟩⟩
/-- ranges -/
def small62 (i : Int) : Prop := -(2 ^ 62) ≤ i ∧ i < 2 ^ 62
def rangeD (lo : Int) (n : Nat) : List D := (List.range n).map fun (i : Nat) => .int (lo + (i : Int))
def rangeC (lo st : Int) (n : Nat) : List D := (List.range n).map fun (i : Nat) => .int (lo + (i : Int) * st)
def iR1 (fs : Env → M (List D)) : Env → M (List D) := fun env => bnd (fs env) fun ds => match ds with
  | [.int j] => ask (small62 j ∧ j ≤ sizeLine) (ret (rangeD 0 j.toNat))
  | _ => fail
def iR2 (fs : Env → M (List D)) : Env → M (List D) := fun env => bnd (fs env) fun ds => match ds with
  | [.int i, .int j] => ask (small62 i ∧ small62 j ∧ j - i ≤ sizeLine) (ret (rangeD i (j - i).toNat))
  | _ => fail
/-- n: how many -/
def iR3 (fs : Env → M (List D)) : Env → M (List D) := fun env => bnd (fs env) fun ds => match ds with
  | [.int i, .int j, .int k] => fun W R _ => ∃ n, RgC i j k n ∧ n ≤ sizeLine ∧ R (rangeC i k n) W
  | _ => fail
theorem RepAll.int1 {c : Ct} {r : Addr} {g : Gd} {us : List V} {j : Int} (h : RepAll c r g us [.int j]) : us = [.int j] := by
  cases h with
  | cons h t =>
    cases t
    cases h
    rfl
theorem RepAll.int2 {c : Ct} {r : Addr} {g : Gd} {us : List V} {i j : Int} (h : RepAll c r g us [.int i, .int j]) : us = [.int i, .int j] := by
  cases h with
  | cons h t =>
    cases h
    rw [t.int1]
theorem ji_range1 (hm : X.mg "range" = none) (ha : JA X E .st (some 1) [e1] fs) (hg : Gl X "range" := by rfl) (hs : starEach [e1] X.env = [(false, eval e1 X.env)] := by rfl) : JI X E true tg (.Call (.Name "range" p) [e1] [] pos) (iR1 fs) := ⟨(pi_range1 hg hm ha.pa hs).imp fun σ H Q ⟨v, g, env, W, R, ER, o, eo, hf, x, q⟩ => ⟨v, g, env, W, _, ER, o, eo, hf, x, fun us ds g1 H1 W1 h1 m1 o1 w1 l1 => by
  dsimp only at h1
  split at h1
  · rename_i j
    obtain ⟨⟨⟨z1, z2⟩, z3⟩, h1⟩ := h1
    exact ⟨j, RepAll.int1 w1, z1, z2, q _ g1 H1 W1 _ h1 m1 o1 (srcR (lo := 0) (by omega))⟩
  · exact h1.elim⟩⟩
theorem ji_range2 (hm : X.mg "range" = none) (ha : JA X E .st (some 2) [e1, e2] fs) (hg : Gl X "range" := by rfl) (hs : starEach [e1, e2] X.env = [(false, eval e1 X.env), (false, eval e2 X.env)] := by rfl) (hs2 : starEach [e2] X.env = [(false, eval e2 X.env)] := by rfl) : JI X E true tg (.Call (.Name "range" p) [e1, e2] [] pos) (iR2 fs) := ⟨(pi_range2 hg hm ha.pa hs hs2).imp fun σ H Q ⟨v, g, env, W, R, ER, o, eo, hf, x, q⟩ => ⟨v, g, env, W, _, ER, o, eo, hf, x, fun us ds g1 H1 W1 h1 m1 o1 w1 l1 => by
  dsimp only at h1
  split at h1
  · rename_i i j
    obtain ⟨⟨⟨z1, z2⟩, ⟨z3, z4⟩, z5⟩, h1⟩ := h1
    exact ⟨i, j, RepAll.int2 w1, ⟨z1, z2, z3, z4⟩, q _ g1 H1 W1 _ h1 m1 o1 (srcR (lo := i) (by omega))⟩
  · exact h1.elim⟩⟩
theorem ji_range3 (hm : X.mg "range" = none) (ha : JA X E .st (some 3) [e1, e2, e3] fs) (hg : Gl X "range" := by rfl) (hs : starEach [e1, e2, e3] X.env = (false, eval e1 X.env) :: starEach [e2, e3] X.env := by rfl) (hpl : (backTo pos (starEach [e2, e3] X.env)).any (·.1) = false := by rfl) : JI X E true tg (.Call (.Name "range" p) [e1, e2, e3] [] pos) (iR3 fs) := ⟨(pi_range3 hg hm ha.pa hs hpl).imp fun σ H Q ⟨v, g, env, W, R, ER, o, eo, hf, x, q⟩ => ⟨v, g, env, W, _, ER, o, eo, hf, x, fun us ds g1 H1 W1 h1 m1 o1 w1 l1 => by
  dsimp only at h1
  split at h1
  · rename_i i j k
    obtain ⟨n, z1, z2, h1⟩ := h1
    have w1 : RepAll (Cx.ct X) v.rw g1 us [.int i, .int j, .int k] := w1
    refine ⟨i, j, k, n, ?_, z1, q _ g1 H1 W1 _ h1 m1 o1 (srcC (lo := i) z2)⟩
    cases w1 with
    | cons h t =>
      cases h
      rw [t.int2]
  · exact h1.elim⟩⟩
/-- enumerate -/
def iEnumA (K : PySem.W.Frag) (ta : TA) : TI := fun σ H R => ta σ H fun vs H1 => ∃ a xs, vs = [.ref a] ∧ ((SqL K H1 a xs ∧ R (Ite K a) H1) ∨ (SqT K H1 a xs ∧ R (ItU K a) H1))
theorem pi_enumA {ta : TA} (hg : Gl X "enumerate") (hm : X.mg "enumerate" = none) (ha : PA X [e] ta) (hs : starEach [e] X.env = [(false, eval e X.env)] := by rfl) : PI X (.Tuple elts kk tpos) (.Call (.Name "enumerate" p) [e] [] pos) (iEnumA X.K ta) := ⟨fun pins s σ H R I h => by
  refine Call_ (ld_blt I hg hm boot_enumerate (PyProof.Rows.callWith_type1 (thn (ha.run pos pins s σ H _ I h) fun us s1 ⟨vs, H1, I1, r1, a, xs, ex, q1⟩ => ?_) hs rfl))
  subst ex
  cases r1 with
  | cons r rr =>
    cases rr
    cases r
    have fo : ∀ b, b ∈ [s1.heap.objs.size + 1, s1.heap.objs.size] → FpOk X pins H1 b := fun b hb => by
      have hle : s1.heap.objs.size ≤ b := by
        rcases List.mem_cons.mp hb with z | z
        · omega
        · rw [List.mem_singleton.mp z]
          exact Nat.le_refl _
      exact I1.fpOk hle (I1.hok.fresh hle)
    rcases q1 with ⟨hq, q⟩ | ⟨hq, q⟩
    · obtain ⟨its, _, p2, _⟩ := I1.list hq
      exact call_enumerate_list p2.isList fun h2 he hit _ hk => wpAny_pyIter_enum he ⟨_, _, _, _, H1, rfl, I1.kept (t' := s1.toks) hk, turn_enum a (s1.heap.objs.size + 1) s1.heap.objs.size, ⟨⟨.none, he⟩, hit, Nat.succ_ne_self _⟩, fo, q⟩
    · obtain ⟨its, _, p2, _⟩ := I1.tuple hq
      exact enum_tup (show s1.heap.IsTuple a its.toArray from p2) fun h2 he hit hk => wpAny_pyIter_enum he ⟨_, _, _, _, H1, rfl, I1.kept (t' := s1.toks) hk, turn_U a (s1.heap.objs.size + 1) s1.heap.objs.size, ⟨⟨.none, he⟩, hit, Nat.succ_ne_self _⟩, fo, q⟩⟩
def iEn (f : Env → M D) : Env → M (List D) := fun env => bnd (f env) fun d => match d with
  | .lst ds => ret (enumD ds)
  | .tup ds => ret (enumD ds)
  | _ => fail
theorem ji_enum (hm : X.mg "enumerate" = none) (ha : JE X E .st e f) (hg : Gl X "enumerate" := by rfl) (hs : starEach [e] X.env = [(false, eval e X.env)] := by rfl) : JI X E true (.Tuple elts kk tpos) (.Call (.Name "enumerate" p) [e] [] pos) (iEn f) :=
  ⟨(pi_enumA hg hm (pa_cons ha.pe pa_nil hs) hs).imp fun σ H Q ⟨v, g, env, W, R, ER, o, eo, hf, x, q⟩ => ⟨v, g, env, W, _, ER, o, eo, hf, x, fun u d g1 H1 W1 h1 m1 o1 w1 => by
    have w1 : Rep (Cx.ct X) v.rw g1 u d := w1
    cases w1 with
    | lst z h k => exact ⟨_, _, rfl, .inl ⟨SqL.of (o1.bh _ _ h), q _ g1 H1 W1 _ h1 m1 o1 (srcEL z h k)⟩⟩
    | tup z h k => exact ⟨_, _, rfl, .inr ⟨SqT.le o1.bh h, q _ g1 H1 W1 _ h1 m1 o1 (srcET z h k)⟩⟩
    | _ => exact h1.elim⟩⟩
theorem ji_enumW (hm : X.mg "enumerate" = none) (ha : JE X E .wk e f) (hg : Gl X "enumerate" := by rfl) (hs : starEach [e] X.env = [(false, eval e X.env)] := by rfl) : JI X E false (.Tuple elts kk tpos) (.Call (.Name "enumerate" p) [e] [] pos) (iEn f) :=
  ⟨(pi_enumA hg hm (pa_cons ha.pe pa_nil hs) hs).imp fun σ H Q ⟨v, g, env, W, R, ER, o, eo, hf, x, q⟩ => ⟨v, g, env, W, _, ER, o, eo, hf, x, fun u d g1 H1 W1 h1 m1 o1 w1 => by
    rcases w1 with w1 | ⟨a, rfl, hB, ha, hv, w1⟩
    · cases w1 with
      | lst z h k => exact ⟨_, _, rfl, .inl ⟨SqL.of (o1.bh _ _ h), q _ g1 H1 W1 _ h1 m1 o1 (srcEL z h k).weak⟩⟩
      | tup z h k => exact ⟨_, _, rfl, .inr ⟨SqT.le o1.bh h, q _ g1 H1 W1 _ h1 m1 o1 (srcET z h k).weak⟩⟩
      | _ => exact h1.elim
    · cases d with
      | lst ds =>
        obtain ⟨vs, z, h, k⟩ := w1
        exact ⟨_, vs, rfl, .inl ⟨SqL.of h, q _ g1 H1 W1 _ h1 m1 o1 (srcEO z hv ha h k)⟩⟩
      | dct ds => exact h1.elim
      | _ => exact w1.elim⟩⟩
end
end Y

set_option maxRecDepth 100000
set_option maxHeartbeats 2000000
namespace Y
open PySem PySem.Spec PyProof.Rows L2

/-! ### targets -/
section
variable {c : Ct} {v : Vo} {g : Gd} {H : Hp} {W : List MO} {σ : L2.St} {env : Env}
theorem EnvOk.set (eo : EnvOk c v g H σ env) {i : Nat} {u : V} {d : D} (h : Rep c v.rw g u d) : EnvOk c v g H (σ.set i (some u)) (env.set i (.v d)) where
  len := by rw [List.length_set, List.length_set, eo.len]
  sl := fun j s q => by
    by_cases e : i = j
    · subst e
      by_cases hl : i < env.length
      · rw [List.getElem?_set_self hl] at q
        cases q
        rw [List.getElem?_set_self (by rw [eo.len]; exact hl)]
        exact ⟨u, rfl, h⟩
      · rw [List.getElem?_eq_none (by rw [List.length_set]; omega)] at q
        cases q
    · rw [List.getElem?_set_ne e] at q ⊢
      exact eo.sl j s q
  ap := fun j k d1 d2 w q1 q2 q3 q4 => by
    have nj : i ≠ j := fun e => by
      subst e
      by_cases hl : i < env.length
      · rw [List.getElem?_set_self hl] at q1; cases q1
      · rw [List.getElem?_eq_none (by rw [List.length_set]; omega)] at q1; cases q1
    have nk : i ≠ k := fun e => by
      subst e
      by_cases hl : i < env.length
      · rw [List.getElem?_set_self hl] at q2; cases q2
      · rw [List.getElem?_eq_none (by rw [List.length_set]; omega)] at q2; cases q2
    rw [List.getElem?_set_ne nj] at q1 q3
    rw [List.getElem?_set_ne nk] at q2 q4
    exact eo.ap j k d1 d2 w q1 q2 q3 q4
theorem EnvOk.drop1 (eo : EnvOk c v g H σ env) (i : Nat) (x : Option V) : EnvOk c v g H (σ.set i x) (env.set i .no) where
  len := by rw [List.length_set, List.length_set, eo.len]
  sl := fun j s q => by
    by_cases e : i = j
    · subst e
      by_cases hl : i < env.length
      · rw [List.getElem?_set_self hl] at q
        cases q
        exact True.intro
      · rw [List.getElem?_eq_none (by rw [List.length_set]; omega)] at q
        cases q
    · rw [List.getElem?_set_ne e] at q ⊢
      exact eo.sl j s q
  ap := fun j k d1 d2 w q1 q2 q3 q4 => by
    have nj : i ≠ j := fun e => by
      subst e
      by_cases hl : i < env.length
      · rw [List.getElem?_set_self hl] at q1; cases q1
      · rw [List.getElem?_eq_none (by rw [List.length_set]; omega)] at q1; cases q1
    have nk : i ≠ k := fun e => by
      subst e
      by_cases hl : i < env.length
      · rw [List.getElem?_set_self hl] at q2; cases q2
      · rw [List.getElem?_eq_none (by rw [List.length_set]; omega)] at q2; cases q2
    rw [List.getElem?_set_ne nj] at q1 q3
    rw [List.getElem?_set_ne nk] at q2 q4
    exact eo.ap j k d1 d2 w q1 q2 q3 q4
def wipeE (env : Env) : List Nat → Env
  | [] => env
  | i :: is => (wipeE env is).set i .no
theorem EnvOk.wipe (eo : EnvOk c v g H σ env) : ∀ is : List Nat, EnvOk c v g H (L2.wipe σ is) (wipeE env is)
  | [] => eo
  | i :: is => (EnvOk.wipe eo is).drop1 i none
theorem wipe_same {σ σ' : L2.St} {S : List Nat} : ∀ {is : List Nat}, σ'.length = σ.length → (∀ j, j ∉ S → σ'[j]? = σ[j]?) → (∀ j ∈ S, j ∈ is) → L2.wipe σ' is = L2.wipe σ is := by
  intro is hl hs hS
  have key : ∀ (is : List Nat) (τ : L2.St) (j : Nat), (L2.wipe τ is)[j]? = if j ∈ is ∧ j < τ.length then some none else τ[j]? := by
    intro is τ
    induction is with
    | nil =>
      intro j
      simp [L2.wipe]
    | cons i is ih =>
      intro j
      unfold L2.wipe
      by_cases e : i = j
      · subst e
        by_cases hj : i < τ.length
        · rw [List.getElem?_set_self (by rw [L2.wipe_length]; exact hj)]
          simp [hj]
        · rw [List.getElem?_eq_none (by rw [List.length_set, L2.wipe_length]; omega)]
          simp [hj]
      · rw [List.getElem?_set_ne e, ih j]
        have : (j ∈ i :: is) ↔ j ∈ is := by
          rw [List.mem_cons]
          exact ⟨fun h => h.elim (fun q => absurd q.symm e) id, .inr⟩
        simp only [this]
  apply List.ext_getElem?
  intro j
  rw [key, key, hl]
  by_cases hj : j ∈ is
  · by_cases hj2 : j < σ.length
    · simp [hj, hj2]
    · simp only [hj, hj2, and_false, if_false]
      rw [List.getElem?_eq_none (by omega), List.getElem?_eq_none (by omega)]
  · simp only [hj, false_and, if_false]
    exact hs j fun q => hj (hS j q)
end
abbrev Gt := D → Env → Option Env
def tG (c : Ct) (S : List Nat) (gf : Gt) : TG := fun u σ H Q => ∃ v g env W d env', Ok c v g H W ∧ EnvOk c v g H σ env ∧ Rep c v.rw g u d ∧ gf d env = some env' ∧ ∀ σ', EnvOk c v g H σ' env' → σ'.length = σ.length → (∀ j, j ∉ S → σ'[j]? = σ[j]?) → Q σ' H
def tGs (c : Ct) (S : List Nat) (gf : List D → Env → Option Env) : TGs := fun us σ H Q => ∃ v g env W ds env', Ok c v g H W ∧ EnvOk c v g H σ env ∧ RepAll c v.rw g us ds ∧ gf ds env = some env' ∧ ∀ σ', EnvOk c v g H σ' env' → σ'.length = σ.length → (∀ j, j ∉ S → σ'[j]? = σ[j]?) → Q σ' H
structure JG (X : Cx) (tg : Expr) (S : List Nat) (gf : Gt) : Prop where
  pg : PG X tg (tG (Cx.ct X) S gf)
structure JGs (X : Cx) (tgs : List Expr) (S : List Nat) (n : Nat) (gf : List D → Env → Option Env) : Prop where
  pg : PGs X tgs (tGs (Cx.ct X) S gf)
  n : ∀ ds env env', gf ds env = some env' → ds.length = n
theorem _root_.L2.PG.imp {X : Cx} {tg : Expr} {t t' : TG} (h : PG X tg t) (k : ∀ u σ H Q, t' u σ H Q → t u σ H Q) : PG X tg t' := ⟨fun pins s σ H x u Q I r q => h.run pins s σ H x u Q I r (k x σ H Q q)⟩
theorem _root_.L2.PGs.imp {X : Cx} {tg : List Expr} {t t' : TGs} (h : PGs X tg t) (k : ∀ u σ H Q, t' u σ H Q → t u σ H Q) : PGs X tg t' := ⟨fun pins s σ H x u Q I r q => h.run pins s σ H x u Q I r (k x σ H Q q)⟩
def gN (i : Nat) : Gt := fun d env => some (env.set i (.v d))
def gs0 : List D → Env → Option Env := fun ds env => match ds with
  | [] => some env
  | _ => none
def gsC (gf : Gt) (gr : List D → Env → Option Env) : List D → Env → Option Env := fun ds env => match ds with
  | d :: r => (gf d env).bind (gr r)
  | [] => none
def gT (gr : List D → Env → Option Env) : Gt := fun d env => match d with
  | .tup ds => gr ds env
  | _ => none
section
variable {X : Cx} {pos : Pos} {e : Expr} {es : List Expr} {S S' : List Nat} {n : Nat} {gf : Gt} {gr : List D → Env → Option Env}
theorem jg_name (i : Nat) {x : Str} (hN : X.N.Nodup) (hi : X.N[i]? = some x := by rfl) (hx : Loc X.env.scope x := by first | exact Or.inl rfl | exact Or.inr rfl) (hf : X.fn x = true ∨ X.env.scope.names.lookup x = some .local := by first | exact Or.inl rfl | exact Or.inr rfl) : JG X (.Name x pos) [i] (gN i) :=
  ⟨(pg_name hN hi hx hf).imp fun u σ H Q ⟨v, g, env, W, d, env', o, eo, r, e, q⟩ => by
    cases e
    refine q _ (eo.set r) (List.length_set ..) fun j hj => ?_
    rw [List.getElem?_set_ne fun z => hj (by rw [z]; exact List.mem_singleton.mpr rfl)]⟩
theorem jgs_nil : JGs X [] [] 0 gs0 where
  pg := pgs_nil.imp fun us σ H Q ⟨v, g, env, W, ds, env', o, eo, r, e, q⟩ => by
    cases ds with
    | nil =>
      cases r
      cases e
      exact ⟨rfl, q σ eo rfl fun _ _ => rfl⟩
    | cons _ _ => cases e
  n := fun ds env env' e => by
    cases ds with
    | nil => rfl
    | cons _ _ => cases e
theorem jgs_cons (h1 : JG X e S gf) (h2 : JGs X es S' n gr) (hs : (assignEach (e :: es) X.env).map (·.2) = assign e X.env :: (assignEach es X.env).map (·.2) := by rfl) : JGs X (e :: es) (S ++ S') (n + 1) (gsC gf gr) where
  pg := (pgs_cons h1.pg h2.pg hs).imp fun us σ H Q ⟨v, g, env, W, ds, env', o, eo, r, e, q⟩ => by
    cases ds with
    | nil => cases e
    | cons d dr =>
      cases r with
      | cons r rr =>
        have e : (gf d env).bind (gr dr) = some env' := e
        cases e1 : gf d env with
        | none => rw [e1] at e; cases e
        | some env1 =>
          rw [e1] at e
          have e : gr dr env1 = some env' := e
          exact ⟨_, _, rfl, v, g, env, W, d, env1, o, eo, r, e1, fun σ1 eo1 l1 s1 => ⟨v, g, env1, W, dr, env', o, eo1, rr, e, fun σ2 eo2 l2 s2 => q σ2 eo2 (l2.trans l1) fun j hj =>
            (s2 j fun z => hj (List.mem_append_right _ z)).trans (s1 j fun z => hj (List.mem_append_left _ z))⟩⟩
  n := fun ds env env' e => by
    cases ds with
    | nil => cases e
    | cons d dr =>
      have e : (gf d env).bind (gr dr) = some env' := e
      cases e1 : gf d env with
      | none => rw [e1] at e; cases e
      | some env1 =>
        rw [e1] at e
        rw [List.length_cons, h2.n dr env1 env' e]
theorem jg_tup {k : Nat} (hc : X.calm = true) (h : JGs X es S n gr) (hn : (assignEach es X.env).length = n := by rfl) (hst : (assignEach es X.env).findIdx? (·.1) = none := by rfl) : JG X (.Tuple es k pos) S (gT gr) :=
  ⟨(pg_tup hc h.pg hn hst).imp fun u σ H Q ⟨v, g, env, W, d, env', o, eo, r, e, q⟩ => by
    cases d with
    | tup ds =>
      cases r with
      | tup z hh k => exact ⟨_, _, rfl, SqT.le o.bh hh, by rw [k.length]; exact h.n _ _ _ e, v, g, env, W, ds, env', o, eo, k, e, q⟩
    | _ => cases e⟩
end

/-! ### list comprehensions -/
structure JTs (X : Cx) (E : XK) (ifs : List Expr) (f : Env → M Bool) : Prop where
  pt : PTs X ifs (tB (Cx.ct X) E f)
theorem _root_.L2.PTs.imp {X : Cx} {e : List Expr} {t t' : TT} (h : PTs X e t) (k : ∀ σ H Q, t' σ H Q → t σ H Q) : PTs X e t' := ⟨fun pins s σ H Q I q => h.run pins s σ H Q I (k σ H Q q)⟩
def bYes : Env → M Bool := fun _ => ret true
theorem jts_nil {X : Cx} {E : XK} : JTs X E [] bYes := ⟨pts_nil.imp fun σ H Q ⟨v, g, env, W, R, ER, o, eo, hf, x, q⟩ => q true g H W hf (Gr.refl v g H) o⟩
theorem jts_one {X : Cx} {E : XK} {e : Expr} {f : Env → M Bool} (h : JT X E e f) : JTs X E [e] f := ⟨pts_one h.pt⟩
def noE {α : Type} (m : M α) : M α := fun W R _ => m W R fun _ _ => False
def compM (gf : Gt) (cf : Env → M Bool) (ef : Env → M D) (ew : Env) : List D → M (List D)
  | [] => ret []
  | x :: xs => match gf x ew with
    | some env' => bnd (cf env') fun b => match b with
      | true => bnd (ef env') fun y => bnd (compM gf cf ef ew xs) fun ys => ret (y :: ys)
      | false => compM gf cf ef ew xs
    | none => fail
def eLc (is : List Nat) (gf : Gt) (cf : Env → M Bool) (ef : Env → M D) (src : Env → M (List D)) : Env → M D := fun env =>
  bnd (src env) fun ds => bnd (noE (compM gf cf ef (wipeE env is) ds)) fun ys => ret (.lst ys)
section
variable {c : Ct} {v : Vo} {g g0 : Gd} {H H0 : Hp} {W : List MO}
theorem Ok.write (o : Ok c v g H W) {p : Addr} {ob : HO} (ob' : HO) (e : H p = some ob) (nf : ¬ Fx ob) (hB : g.B p = none) (ha : p ∉ g.al) (hv : ¬ v.vol p) : Ok c v g (upd H p ob') W where
  bh := fun q u x => by
    rw [upd_ne (fun z => by rw [z, hB] at x; cases x)]
    exact o.bh q u x
  bv := o.bv
  ba := o.ba
  ri := v.st H _ o.ri (fun q hq => upd_ne fun z => hv (by rw [← z]; exact hq)) fun q u f x => by
    rw [upd_ne fun z => by rw [z, e] at x; cases x; exact nf f]
    exact x
  len := o.len
  nd := o.nd
  wo := fun i a x ea ex => (o.wo i a x ea ex).mono (GLe.refl g) fun u z => by
    rw [upd_ne fun y => ha (by rw [← y]; exact List.mem_of_getElem? ea)]
    exact z
  vk := o.vk
  bt := o.bt
theorem Gr.write (m : Gr v g0 H0 g H) {p : Addr} (ob : HO) (h0 : ¬ Old H0 p) (nt : ∀ ps, ob ≠ .tbl ps := by intro _ h; cases h) : Gr v g0 H0 g (upd H p ob) where
  le := m.le
  h := fun q u e n nv na => by
    rw [upd_ne fun z => h0 (by rw [← z]; exact ⟨u, e, n⟩)]
    exact m.h q u e n nv na
  n := m.n
  na := m.na
  dom := fun q z => old_upd nt (m.dom q z)
theorem Gr.old0 (m : Gr v g0 H0 g H) {p : Addr} (h : H p = none) : ¬ Old H0 p := fun q => old_none h (m.dom p q)
end
abbrev E0 : XK := fun _ _ _ => False
section
variable {X : Cx} {E : XK} {elt tg iter : Expr} {ifs : List Expr} {scope : Scope} {own : List (Str × Nat)} {pos : Pos} {S : List Nat} {gf : Gt} {cf : Env → M Bool} {ef : Env → M D} {src : Env → M (List D)}
theorem lc_of : ∀ σ H Q, (∀ j ∈ S, j ∈ own.map (·.2)) → tD (Cx.ct X) E .fr (eLc (own.map (·.2)) gf cf ef src) σ H Q → tLc (tI (Cx.ct X) E false src) (tG (Cx.ct X) S gf) (tB (Cx.ct X) E0 cf) (tD (Cx.ct X) E0 .st ef) (own.map (·.2)) σ H Q :=
  fun σ H Q hS ⟨v, g, env, W, R, ER, o, eo, hf, x, q⟩ => ⟨v, g, env, W, _, ER, o, eo, hf, x, fun ds g1 H1 W1 J h1 m1 o1 ⟨zl, G, Yt, wk, hG, hY⟩ d hd => by
    obtain ⟨n1, n2, n3⟩ := o1.newp hd
    obtain ⟨o2, m2⟩ := o1.alloc hd (.lst [])
    refine lc_it wk (Pv := fun i H => ∃ g' W' dacc acc, Gr v g1 H1 g' H ∧ Ok (Cx.ct X) v g' H W' ∧ H d = some (.lst acc) ∧ acc.length ≤ i ∧ RepAll (Cx.ct X) v.rw g' acc dacc ∧ g'.B d = none ∧ d ∉ g'.al ∧
      compM gf cf ef (wipeE env (own.map (·.2))) (ds.drop i) W' (fun ys W2 => R (.lst (dacc ++ ys)) W2) fun _ _ => False) ⟨g1, W1, [], [], m2, o2, upd_same, Nat.le_refl _, .nil, n1, n2, h1⟩ (fun i H hi ⟨g', W', _, _, m, o', _⟩ => hG g' H W' m o') ?_ ?_
    · intro i x H2 H3 hi ⟨g2, W2, dacc, acc, m3, o3, hd3, hl3, ra, b1, b2, hc⟩ hy
      obtain ⟨g3, dx, e3, m4, o4, r4⟩ := hY i H2 x H3 g2 W2 m3 o3 hi hy
      have hi' : i < ds.length := hi
      have e5 : ds.drop i = dx :: ds.drop (i + 1) := by
        rw [List.getElem?_eq_getElem hi'] at e3
        cases e3
        exact List.drop_eq_getElem_cons hi'
      rw [e5] at hc
      unfold compM at hc
      cases e6 : gf dx (wipeE env (own.map (·.2))) with
      | none => rw [e6] at hc; exact hc.elim
      | some env' =>
        rw [e6] at hc
        have m5 := (m1.trans m3).trans m4
        -- the list so far
        have hd4 : H3 d = some (.lst acc) := m4.hL hd3 n3 b2
        have hH2 : Old H2 d := ⟨_, hd3, fun _ h => by cases h⟩
        have b3 : g3.B d = none := m4.n d b1 hH2
        have b4 : d ∉ g3.al := fun z => (m4.na d z).elim b2 fun w => w hH2
        refine ⟨v, g3, _, W2, dx, env', o4, (eo.mono m5).wipe _, r4, e6, fun σ2 eo2 l2 s2 => ⟨wipe_same l2 s2 hS |>.trans ?_, v, g3, env', W2, _, _, o4, eo2, hc, XW.no, fun b g5 H5 W5 h5 m6 o5 => ?_⟩⟩
        · -- wiped twice
          have key : ∀ is : List Nat, L2.wipe (L2.wipe σ is) is = L2.wipe σ is := fun is => wipe_same (S := is) (L2.wipe_length σ is) (fun j hj => by
            have : ∀ (is : List Nat), j ∉ is → (L2.wipe σ is)[j]? = σ[j]? := by
              intro is
              induction is with
              | nil => intro _; rfl
              | cons k ks ih =>
                intro hj
                unfold L2.wipe
                rw [List.getElem?_set_ne (fun z => hj (by rw [z]; exact List.mem_cons_self)), ih fun z => hj (List.mem_cons_of_mem _ z)]
            exact this is hj) fun _ z => z
          exact key _
        · have hd5 : H5 d = some (.lst acc) := m6.hL hd4 n3 b4
          have hH3 : Old H3 d := ⟨_, hd4, fun _ h => by cases h⟩
          have b5 : g5.B d = none := m6.n d b3 hH3
          have b6 : d ∉ g5.al := fun z => (m6.na d z).elim b4 fun w => w hH3
          cases b with
          | false =>
            dsimp only
            rw [if_neg Bool.false_ne_true]
            exact ⟨g5, W5, dacc, acc, (m3.trans m4).trans m6, o5, hd5, by omega, ra.mono (m4.trans m6).le, b5, b6, h5⟩
          | true =>
            dsimp only
            rw [if_pos rfl]
            refine ⟨v, g5, env', W5, _, _, o5, eo2.mono m6, h5, XW.no, fun y dy g7 H7 W7 h7 m8 o7 ry => ⟨acc, m8.hL hd5 n3 b6, by have := zl; omega, ?_⟩⟩
            have hd7 : H7 d = some (.lst acc) := m8.hL hd5 n3 b6
            have hH5 : Old H5 d := ⟨_, hd5, fun _ h => by cases h⟩
            have b7 : g7.B d = none := m8.n d b5 hH5
            have b8 : d ∉ g7.al := fun z => (m8.na d z).elim b6 fun w => w hH5
            have ry : Rep (Cx.ct X) v.rw g7 y dy := ry
            refine ⟨g7, W7, dacc ++ [dy], acc ++ [y], (((m3.trans m4).trans m6).trans m8).write _ (old_none hd), o7.write _ hd7 id b7 b8 n3, upd_same, by rw [List.length_append, List.length_singleton]; omega, (ra.mono ((m4.trans m6).trans m8).le).append (.cons ry .nil), b7, b8, ?_⟩
            have h7 : compM gf cf ef (wipeE env (own.map (·.2))) (ds.drop (i + 1)) W7 (fun ys W2 => R (.lst (dacc ++ dy :: ys)) W2) fun _ _ => False := h7
            have e8 : (fun (ys : List D) (W2 : List MO) => R (.lst (dacc ++ [dy] ++ ys)) W2) = fun ys W2 => R (.lst (dacc ++ dy :: ys)) W2 := by
              funext ys W2
              rw [List.append_assoc]
              rfl
            rw [e8]
            exact h7
    · intro H2 ⟨g2, W2, dacc, acc, m3, o3, hd3, hl3, ra, b1, b2, hc⟩
      rw [List.drop_length] at hc
      have hc : R (.lst (dacc ++ [])) W2 := hc
      rw [List.append_nil] at hc
      exact q _ _ g2 H2 W2 hc (m1.trans m3) o3 ⟨⟨⟨d, rfl, b1, b2, n3, acc, by have := zl; omega, hd3, ra⟩, fun p e => by cases e; exact m1.old0 hd⟩, _, rfl⟩⟩
/-- in a block of X -/
abbrev Bk (X : Cx) (scope : Scope) (P : Cx → Prop) : Prop := ∀ (s : Shared) (H : Hp) (C : Addr) (cl : List (Str × Addr)) (fp : List Addr), P (X.blk s H scope (compEnvC scope cl C X.env) fp)
theorem je_lc (hc : X.calm = true) (hN : X.N.Nodup) (hi : JI X E false tg iter src) (ok : BlkOk X.N X.env.scope scope own) (hg : ∀ (s : Shared) (H : Hp) (C : Addr) (cl : List (Str × Addr)) (fp : List Addr), JG (X.blk s H scope (compEnvC scope cl C X.env) fp) tg S gf) (ht : ∀ (s : Shared) (H : Hp) (C : Addr) (cl : List (Str × Addr)) (fp : List Addr), JTs (X.blk s H scope (compEnvC scope cl C X.env) fp) E0 ifs cf) (he : ∀ (s : Shared) (H : Hp) (C : Addr) (cl : List (Str × Addr)) (fp : List Addr), JE (X.blk s H scope (compEnvC scope cl C X.env) fp) E0 .st elt ef)
    (hS : ∀ j ∈ S, j ∈ own.map (·.2) := by decide) (hs : ∀ x, foldedSetIterable iter X.env x = pure x := by intro _; rfl) : JE X E .fr (.ListComp elt [⟨tg, iter, ifs, 0⟩] scope pos) (eLc (own.map (·.2)) gf cf ef src) :=
  ⟨(pe_lc hc hN hi.pi ok (fun s H C cl fp => (hg s H C cl fp).pg) (fun s H C cl fp => (ht s H C cl fp).pt) (fun s H C cl fp => (he s H C cl fp).pe) hs).imp fun σ H Q h => lc_of (X := X) σ H Q hS h⟩
end
end Y

set_option maxRecDepth 100000
set_option maxHeartbeats 2000000
namespace Y
open PySem PySem.Spec PyProof.Rows L2

/-! ### statements -/
structure Ks where
  nx : Env → List MO → Prop
  rt : D → List MO → Prop
  bk : Env → List MO → Prop
  ct : Env → List MO → Prop
  ex : Exn → List MO → Prop
abbrev SM := Env → List MO → Ks → Prop
structure At (c : Ct) (v : Vo) (g0 : Gd) (H0 : Hp) (g : Gd) (σ : L2.St) (H : Hp) (env : Env) (W : List MO) : Prop where
  gr : Gr v g0 H0 g H
  ok : Ok c v g H W
  eo : EnvOk c v g H σ env
  new : ∀ (i : Nat) (d : D) (p : Addr), env[i]? = some (.o d) → σ[i]? = some (some (.ref p)) → ¬ Old H0 p
def CN (c : Ct) (v : Vo) (g0 : Gd) (H0 : Hp) (g : Gd) (P : Env → List MO → Prop) (Q : L2.St → Hp → Prop) : Prop :=
  ∀ env σ g' H W, P env W → GLe g g' → At c v g0 H0 g' σ H env W → Q σ H
def tS (c : Ct) (E : XK) (s : SM) : TS := fun Dn σ H => ∃ v g0 H0 g env W K, At c v g0 H0 g σ H env W ∧ s env W K ∧ XW c v g0 H0 E K.ex ∧
  CN c v g0 H0 g K.nx Dn.nx ∧ Cont c v .st g0 H0 K.rt Dn.rt ∧ CN c v g0 H0 g K.bk Dn.bk ∧ CN c v g0 H0 g K.ct Dn.ct
structure JS (X : Cx) (E : XK) (st : Stmt) (s : SM) : Prop where
  ps : PS X st (tS (Cx.ct X) E s)
structure JSs (X : Cx) (E : XK) (sts : List Stmt) (s : SM) : Prop where
  ps : PSs X sts (tS (Cx.ct X) E s)
section
variable {c : Ct} {v : Vo} {g0 g g1 : Gd} {H0 H H1 : Hp} {W W1 : List MO} {σ : L2.St} {env : Env}
theorem CN.mv {P : Env → List MO → Prop} {Q : L2.St → Hp → Prop} (m : GLe g g1) (q : CN c v g0 H0 g P Q) : CN c v g0 H0 g1 P Q := fun env σ g' H W p l a => q env σ g' H W p (m.trans l) a
/-- behind an expression -/
theorem At.on (a : At c v g0 H0 g σ H env W) (m : Gr v g H g1 H1) (o : Ok c v g1 H1 W1) : At c v g0 H0 g1 σ H1 env W1 := ⟨a.gr.trans m, o, a.eo.mono m, a.new⟩
theorem At.ownd (a : At c v g0 H0 g σ H env W) {i : Nat} {d : D} (e : env[i]? = some (.o d)) : ∃ p, σ[i]? = some (some (.ref p)) ∧ g.B p = none ∧ p ∉ g.al ∧ ¬ v.vol p ∧ OwnO c v.rw g H p d ∧ ¬ Old H0 p := by
  obtain ⟨u, e1, p, rfl, h1, h2, h3, h4⟩ := a.eo.sl i _ e
  exact ⟨p, e1, h1, h2, h3, h4, a.new i d p e e1⟩
/-- a thing of one's own is rewritten -/
theorem At.write (a : At c v g0 H0 g σ H env W) {i : Nat} {d d' : D} {p : Addr} {ob : HO} (e : env[i]? = some (.o d)) (ep : σ[i]? = some (some (.ref p))) (h : OwnO c v.rw g (upd H p ob) p d') (nt : ∀ ps, ob ≠ .tbl ps := by intro _ h; cases h) : At c v g0 H0 g σ (upd H p ob) (env.set i (.o d')) W := by
  obtain ⟨p', e1, h1, h2, h3, h4, h5⟩ := a.ownd e
  rw [ep] at e1
  cases e1
  obtain ⟨ob0, e0, nf, _⟩ := h4.there
  have hl : i < env.length := (List.getElem?_eq_some_iff.mp e).1
  refine ⟨a.gr.write ob h5 nt, a.ok.write ob e0 nf h1 h2 h3, ⟨by rw [List.length_set]; exact a.eo.len, fun j s q => ?_, fun j k d1 d2 u q1 q2 q3 q4 => ?_⟩, fun j d1 q q1 q2 => ?_⟩
  · by_cases z : i = j
    · subst z
      rw [List.getElem?_set_self hl] at q
      cases q
      exact ⟨.ref p, ep, p, rfl, h1, h2, h3, h⟩
    · rw [List.getElem?_set_ne z] at q
      have r := a.eo.sl j s q
      cases s with
      | no => exact True.intro
      | v d1 => exact r
      | o d1 =>
        obtain ⟨u, eu, q', rfl, b1, b2, b3, b4⟩ := r
        have ne : q' ≠ p := fun w => z (a.eo.ap i j d d1 (.ref p) e q ep (by rw [← w]; exact eu))
        exact ⟨.ref q', eu, q', rfl, b1, b2, b3, b4.mono (GLe.refl g) fun o x => by rw [upd_ne ne]; exact x⟩
  · have f : ∀ (j : Nat) (d1 : D), (env.set i (.o d'))[j]? = some (.o d1) → ∃ d2, env[j]? = some (.o d2) := fun j d1 q => by
      by_cases z : i = j
      · subst z; exact ⟨d, e⟩
      · rw [List.getElem?_set_ne z] at q
        exact ⟨d1, q⟩
    obtain ⟨d3, q1⟩ := f j d1 q1
    obtain ⟨d4, q2⟩ := f k d2 q2
    exact a.eo.ap j k d3 d4 u q1 q2 q3 q4
  · by_cases z : i = j
    · subst z
      rw [ep] at q2
      cases q2
      exact h5
    · rw [List.getElem?_set_ne z] at q1
      exact a.new j d1 q q1 q2
/-- a slot is given a thing of one's own -/
theorem At.give (a : At c v g0 H0 g σ H env W) (m : Gr v g H g1 H1) (o : Ok c v g1 H1 W1) {i : Nat} {u : V} {d : D} (w : Own c v g1 H1 u d) (n : ∀ p, u = .ref p → ¬ Old H p) : At c v g0 H0 g1 (σ.set i (some u)) H1 (env.set i (.o d)) W1 := by
  have b := a.on m o
  have old : ∀ (j : Nat) (d1 : D) (q : Addr), env[j]? = some (.o d1) → σ[j]? = some (some (.ref q)) → u ≠ .ref q := fun j d1 q e e1 z => by
    obtain ⟨q', e2, _, _, _, h4, _⟩ := a.ownd e
    rw [e1] at e2
    cases e2
    exact n q z h4.old
  have isr : ∀ (j : Nat) (d1 : D), env[j]? = some (.o d1) → ∀ w, σ[j]? = some (some w) → ∃ q, w = .ref q := fun j d1 e w e1 => by
    obtain ⟨q', e2, _⟩ := a.ownd e
    rw [e1] at e2
    cases e2
    exact ⟨q', rfl⟩
  refine ⟨b.gr, b.ok, ⟨by rw [List.length_set, List.length_set]; exact a.eo.len, fun j s q => ?_, fun j k d1 d2 w q1 q2 q3 q4 => ?_⟩, fun j d1 q q1 q2 => ?_⟩
  · by_cases z : i = j
    · subst z
      by_cases hl : i < env.length
      · rw [List.getElem?_set_self hl] at q
        cases q
        exact ⟨u, by rw [List.getElem?_set_self (by rw [a.eo.len]; exact hl)], w⟩
      · rw [List.getElem?_eq_none (by rw [List.length_set]; omega)] at q
        cases q
    · rw [List.getElem?_set_ne z] at q ⊢
      exact b.eo.sl j s q
  · by_cases z : i = j
    · subst z
      by_cases z2 : i = k
      · exact z2
      · exfalso
        by_cases hl : i < env.length
        · rw [List.getElem?_set_self (by rw [a.eo.len]; exact hl)] at q3
          cases q3
          rw [List.getElem?_set_ne z2] at q2 q4
          obtain ⟨q, rfl⟩ := isr k d2 q2 _ q4
          exact old k d2 q q2 q4 rfl
        · rw [List.getElem?_eq_none (by rw [List.length_set]; omega)] at q1
          cases q1
    · rw [List.getElem?_set_ne z] at q1 q3
      by_cases z2 : i = k
      · subst z2
        exfalso
        by_cases hl : i < env.length
        · rw [List.getElem?_set_self (by rw [a.eo.len]; exact hl)] at q4
          cases q4
          obtain ⟨q, rfl⟩ := isr j d1 q1 _ q3
          exact old j d1 q q1 q3 rfl
        · rw [List.getElem?_eq_none (by rw [List.length_set]; omega)] at q2
          cases q2
      · rw [List.getElem?_set_ne z2] at q2 q4
        exact a.eo.ap j k d1 d2 w q1 q2 q3 q4
  · by_cases z : i = j
    · subst z
      by_cases hl : i < env.length
      · rw [List.getElem?_set_self (by rw [a.eo.len]; exact hl)] at q2
        cases q2
        exact fun w => n q rfl (a.gr.dom q w)
      · rw [List.getElem?_eq_none (by rw [List.length_set]; omega)] at q1
        cases q1
    · rw [List.getElem?_set_ne z] at q1 q2
      exact a.new j d1 q q1 q2
end
/-! ### blocks -/
def sNil : SM := fun env W K => K.nx env W
def sSeq (s t : SM) : SM := fun env W K => s env W { K with nx := fun e w => t e w K }
section
variable {X : Cx} {E : XK} {st : Stmt} {sts : List Stmt} {s t : SM} {pos : Pos}
theorem jss_nil : JSs X E [] sNil := ⟨pss_nil.imp fun Dn σ H ⟨v, g0, H0, g, env, W, K, a, hs, x, n, r, b, ct⟩ => n env σ g H W hs (GLe.refl g) a⟩
theorem jss_cons (h1 : JS X E st s) (h2 : JSs X E sts t) : JSs X E (st :: sts) (sSeq s t) := ⟨(pss_cons h1.ps h2.ps).imp fun Dn σ H ⟨v, g0, H0, g, env, W, K, a, hs, x, n, r, b, ct⟩ =>
  ⟨v, g0, H0, g, env, W, _, a, hs, x, fun env' σ' g' H' W' p l a' => ⟨v, g0, H0, g', env', W', K, a', p, x, n.mv l, r, b.mv l, ct.mv l⟩, r, b, ct⟩⟩
theorem jss_one (h1 : JS X E st s) : JSs X E [st] s := ⟨pss_one h1.ps⟩
theorem js_never : JS X E st fun _ _ _ => False := ⟨⟨fun _ _ _ _ _ _ ⟨_, _, _, _, _, _, _, _, h, _⟩ => h.elim⟩⟩
theorem jss_never : JSs X E sts fun _ _ _ => False := ⟨⟨fun _ _ _ _ _ _ ⟨_, _, _, _, _, _, _, _, h, _⟩ => h.elim⟩⟩
theorem js_pass : JS X E (.Pass pos) sNil := ⟨ps_pass.imp fun Dn σ H ⟨v, g0, H0, g, env, W, K, a, hs, x, n, r, b, ct⟩ => n env σ g H W hs (GLe.refl g) a⟩
theorem js_break : JS X E (.Break pos) fun env W K => K.bk env W := ⟨ps_break.imp fun Dn σ H ⟨v, g0, H0, g, env, W, K, a, hs, x, n, r, b, ct⟩ => b env σ g H W hs (GLe.refl g) a⟩
theorem js_continue : JS X E (.Continue pos) fun env W K => K.ct env W := ⟨ps_continue.imp fun Dn σ H ⟨v, g0, H0, g, env, W, K, a, hs, x, n, r, b, ct⟩ => ct env σ g H W hs (GLe.refl g) a⟩
/-- the freeze of a slot -/
def sFrz (i : Nat) (t : SM) : SM := fun env W K => match env[i]? with
  | some (.o d) => t (env.set i (.v d)) W K
  | some (.v _) => t env W K
  | _ => False
theorem At.frz {c : Ct} {v : Vo} {g0 g g' : Gd} {H0 H H' : Hp} {W : List MO} {σ : L2.St} {env : Env} (a : At c v g0 H0 g σ H env W) {i : Nat} {d : D} {p : Addr} (e : env[i]? = some (.o d)) (ep : σ[i]? = some (some (.ref p))) (o : Ok c v g' H' W) (m : Gr v g0 H0 g' H') (gl : GLe g g') (hal : g'.al = g.al)
    (sm : ∀ q, q ≠ p → g'.B q = g.B q ∧ H' q = H q) (r : Rep c v.rw g' (.ref p) d) : At c v g0 H0 g' σ H' (env.set i (.v d)) W := by
  have hl : i < env.length := (List.getElem?_eq_some_iff.mp e).1
  refine ⟨m, o, ⟨by rw [List.length_set]; exact a.eo.len, fun j s q => ?_, fun j k d1 d2 u q1 q2 q3 q4 => ?_⟩, fun j d1 q q1 q2 => ?_⟩
  · by_cases z : i = j
    · subst z
      rw [List.getElem?_set_self hl] at q
      cases q
      exact ⟨.ref p, ep, r⟩
    · rw [List.getElem?_set_ne z] at q
      have r := a.eo.sl j s q
      cases s with
      | no => exact True.intro
      | v d1 =>
        obtain ⟨u, eu, k⟩ := r
        exact ⟨u, eu, k.mono gl⟩
      | o d1 =>
        obtain ⟨u, eu, q', rfl, b1, b2, b3, b4⟩ := r
        have ne : q' ≠ p := fun w => z (a.eo.ap i j d d1 (.ref p) e q ep (by rw [← w]; exact eu))
        exact ⟨.ref q', eu, q', rfl, by rw [(sm q' ne).1]; exact b1, by rw [hal]; exact b2, b3, b4.mono gl fun o x => by rw [(sm q' ne).2]; exact x⟩
  · have f : ∀ (j : Nat) (d1 : D), (env.set i (.v d))[j]? = some (.o d1) → env[j]? = some (.o d1) := fun j d1 q => by
      by_cases z : i = j
      · subst z
        rw [List.getElem?_set_self hl] at q
        cases q
      · rw [List.getElem?_set_ne z] at q
        exact q
    exact a.eo.ap j k d1 d2 u (f j d1 q1) (f k d2 q2) q3 q4
  · by_cases z : i = j
    · subst z
      rw [List.getElem?_set_self hl] at q1
      cases q1
    · rw [List.getElem?_set_ne z] at q1
      exact a.new j d1 q q1 q2
theorem jss_frz (i : Nat) (h : JSs X E sts t) : JSs X E sts (sFrz i t) := ⟨⟨fun pins s σ H Dn I ⟨v, g0, H0, g, env, W, K, a, hs, x, n, r, b, ct⟩ => by
  unfold sFrz at hs
  cases e : env[i]? with
  | none => rw [e] at hs; exact hs.elim
  | some sl =>
    rw [e] at hs
    cases sl with
    | no => exact hs.elim
    | v d => exact h.ps.run pins s σ H Dn I ⟨v, g0, H0, g, env, W, K, a, hs, x, n, r, b, ct⟩
    | o d =>
      obtain ⟨p, ep, h1, h2, h3, h4, h5⟩ := a.ownd e
      cases d with
      | lst ds =>
        obtain ⟨g', o', m', gl, k, sm, hal⟩ := Own.toSt a.gr a.ok ⟨p, rfl, h1, h2, h3, h4⟩ fun q z => by cases z; exact h5
        exact h.ps.run pins s σ H Dn I ⟨v, g0, H0, g', _, W, K, a.frz e ep o' m' gl hal (fun q hq => ⟨sm q fun z => hq (by cases z; rfl), rfl⟩) k, hs, x, n.mv gl, r, b.mv gl, ct.mv gl⟩
      | dct ds =>
        obtain ⟨vs, z, eh, k⟩ := h4
        obtain ⟨od, I2⟩ := I.lock eh True.intro
        obtain ⟨o', m', gl⟩ := a.ok.lockd a.gr eh h1 h2 h3 h5 od
        exact h.ps.run pins s σ _ Dn I2 ⟨v, g0, H0, _, _, W, K, a.frz e ep o' m' gl rfl (fun q hq => ⟨upd_ne hq, upd_ne hq⟩) (.dct z upd_same (k.mono gl)), hs, x, n.mv gl, r, b.mv gl, ct.mv gl⟩
      | _ => exact h4.elim⟩⟩
/-! ### small statements -/
def sExpr (f : Env → M D) : SM := fun env W K => f env W (fun _ W' => K.nx env W') K.ex
def sRet (f : Env → M D) : SM := fun env W K => f env W K.rt K.ex
def sAsg (gf : Gt) (f : Env → M D) : SM := fun env W K => f env W (fun d W' => match gf d env with | some env' => K.nx env' W' | none => False) K.ex
def sOwn (i : Nat) (f : Env → M D) : SM := fun env W K => f env W (fun d W' => K.nx (env.set i (.o d)) W') K.ex
def sIf (cf : Env → M Bool) (s t : SM) : SM := fun env W K => cf env W (fun b W' => match b with | true => s env W' K | false => t env W' K) K.ex
variable {e c1 : Expr} {f : Env → M D} {S : List Nat} {gf : Gt} {tg : Expr} {pos' : Pos}
theorem js_expr (h : JE X E .wk e f) (hs : swapsWith e none pos.line X.env = pure false := by rfl) : JS X E (.Expr e pos) (sExpr f) := ⟨(ps_expr h.pe hs).imp fun Dn σ H ⟨v, g0, H0, g, env, W, K, a, hs, x, n, r, b, ct⟩ =>
  ⟨v, g, env, W, _, _, a.ok, a.eo, hs, x.mv a.gr, fun u d g1 H1 W1 h1 m1 o1 w1 => n env σ g1 H1 W1 h1 m1.le (a.on m1 o1)⟩⟩
theorem js_ret (h : JE X E .st e f) : JS X E (.Return (some e) pos) (sRet f) := ⟨(ps_ret h.pe).imp fun Dn σ H ⟨v, g0, H0, g, env, W, K, a, hs, x, n, r, b, ct⟩ =>
  ⟨v, g, env, W, _, _, a.ok, a.eo, hs, x.mv a.gr, r.mv a.gr⟩⟩
theorem js_retN : JS X E (.Return none pos) fun env W K => K.rt .non W := ⟨ps_retN.imp fun Dn σ H ⟨v, g0, H0, g, env, W, K, a, hs, x, n, r, b, ct⟩ => r .non .non g H W hs a.gr a.ok .non⟩
def GOwn (S : List Nat) (gf : Gt) : Prop := ∀ d env env', gf d env = some env' → ∀ i x, env'[i]? = some (.o x) → i ∉ S ∧ env[i]? = some (.o x)
theorem gown_name (i : Nat) : GOwn [i] (gN i) := fun d env env' e j x q => by
  cases e
  by_cases z : i = j
  · subst z
    exfalso
    by_cases hl : i < env.length
    · rw [List.getElem?_set_self hl] at q
      cases q
    · rw [List.getElem?_eq_none (by rw [List.length_set]; omega)] at q
      cases q
  · rw [List.getElem?_set_ne z] at q
    exact ⟨fun w => z (List.mem_singleton.mp w).symm, q⟩
def GOwns (S : List Nat) (gr : List D → Env → Option Env) : Prop := ∀ d env env', gr d env = some env' → ∀ i x, env'[i]? = some (.o x) → i ∉ S ∧ env[i]? = some (.o x)
theorem gowns_nil : GOwns [] gs0 := fun ds env env' e i x q => by
  cases ds with
  | nil => cases e; exact ⟨List.not_mem_nil, q⟩
  | cons _ _ => cases e
theorem gowns_cons {S S' : List Nat} {gf : Gt} {gr : List D → Env → Option Env} (h : GOwn S gf) (h' : GOwns S' gr) : GOwns (S ++ S') (gsC gf gr) := fun ds env env' e i x q => by
  cases ds with
  | nil => cases e
  | cons d dr =>
    have e : (gf d env).bind (gr dr) = some env' := e
    cases e1 : gf d env with
    | none => rw [e1] at e; cases e
    | some env1 =>
      rw [e1] at e
      obtain ⟨z1, q1⟩ := h' dr env1 env' e i x q
      obtain ⟨z2, q2⟩ := h d env env1 e1 i x q1
      exact ⟨fun w => (List.mem_append.mp w).elim z2 z1, q2⟩
theorem gown_tup {S : List Nat} {gr : List D → Env → Option Env} (h : GOwns S gr) : GOwn S (gT gr) := fun d env env' e i x q => by
  cases d with
  | tup ds => exact h ds env env' e i x q
  | _ => cases e
theorem asg_of {c : Ct} (go : GOwn S gf) : ∀ Dn σ H, tS c E (sAsg gf f) Dn σ H → tAsg (tD c E .st f) (tG c S gf) Dn σ H := fun Dn σ H ⟨v, g0, H0, g, env, W, K, a, hs, x, n, r, b, ct⟩ =>
  ⟨v, g, env, W, _, _, a.ok, a.eo, hs, x.mv a.gr, fun u d g1 H1 W1 h1 m1 o1 w1 => by
    dsimp only at h1
    cases e1 : gf d env with
    | none => rw [e1] at h1; exact h1.elim
    | some env' =>
      rw [e1] at h1
      exact ⟨v, g1, env, W1, d, env', o1, a.eo.mono m1, w1, e1, fun σ' eo' l' s' => n env' σ' g1 H1 W1 h1 m1.le ⟨a.gr.trans m1, o1, eo', fun i dx p q1 q2 => by
        obtain ⟨z, q3⟩ := go d env env' e1 i dx q1
        rw [s' i z] at q2
        exact a.new i dx p q3 q2⟩⟩⟩
theorem js_asg (go : GOwn S gf) (h : JE X E .st e f) (hg : JG X tg S gf) (hs : swapsWithSole [tg] e pos.line X.env = pure false := by rfl) (hw : swappedStores [tg] e X.env = pure none := by rfl)
    (h1 : (assignEach [tg] X.env).map (·.2) = [assign tg X.env] := by rfl) : JS X E (.Assign [tg] e pos) (sAsg gf f) := ⟨(ps_asg h.pe hg.pg hs hw h1).imp (asg_of go)⟩
theorem own_of {c : Ct} {k : Kd} (hk : k = .fr ∨ k = .fk) (i : Nat) : ∀ Dn σ H, tS c E (sOwn i f) Dn σ H → tAsg (tD c E k f) (gName i) Dn σ H := fun Dn σ H ⟨v, g0, H0, g, env, W, K, a, hs, x, n, r, b, ct⟩ =>
  ⟨v, g, env, W, _, _, a.ok, a.eo, hs, x.mv a.gr, fun u d g1 H1 W1 h1 m1 o1 w1 => by
    have z : Own c v g1 H1 u d ∧ ∀ p, u = .ref p → ¬ Old H p := by
      rcases hk with rfl | rfl
      · exact w1.1
      · exact w1.1
    exact n _ _ g1 H1 W1 h1 m1.le (a.give m1 o1 z.1 z.2)⟩
section
variable {x : Str} (i : Nat)
theorem js_set (h : JE X E .st e f) (hN : X.N.Nodup) (hi : X.N[i]? = some x := by rfl) (hx : Loc X.env.scope x := by first | exact Or.inl rfl | exact Or.inr rfl) (hs : swapsWith e (some (.Name x pos')) pos.line X.env = pure false := by rfl)
    (hf : X.fn x = true ∨ X.env.scope.names.lookup x = some .local := by first | exact Or.inl rfl | exact Or.inr rfl) : JS X E (.Assign [.Name x pos'] e pos) (sAsg (gN i) f) :=
  ⟨(ps_set hN hi hx h.pe hs hf).imp fun Dn σ H q => by
    obtain ⟨v, g, env, W, R, ER, o, eo, hf, x, q⟩ := asg_of (E := E) (S := [i]) (gown_name i) Dn σ H q
    exact ⟨v, g, env, W, R, ER, o, eo, hf, x, fun u d g1 H1 W1 h1 m1 o1 w1 => by
      obtain ⟨v2, g2, env2, W2, d2, env3, o2, eo2, r2, e2, q2⟩ := q u d g1 H1 W1 h1 m1 o1 w1
      cases e2
      exact q2 _ (eo2.set r2) (List.length_set ..) fun j hj => by rw [List.getElem?_set_ne fun z => hj (by rw [z]; exact List.mem_singleton.mpr rfl)]⟩⟩
theorem js_own {k : Kd} (h : JE X E k e f) (hN : X.N.Nodup) (hk : k = .fr ∨ k = .fk := by first | exact Or.inl rfl | exact Or.inr rfl) (hi : X.N[i]? = some x := by rfl) (hx : Loc X.env.scope x := by first | exact Or.inl rfl | exact Or.inr rfl) (hs : swapsWith e (some (.Name x pos')) pos.line X.env = pure false := by rfl)
    (hf : X.fn x = true ∨ X.env.scope.names.lookup x = some .local := by first | exact Or.inl rfl | exact Or.inr rfl) : JS X E (.Assign [.Name x pos'] e pos) (sOwn i f) := ⟨(ps_set hN hi hx h.pe hs hf).imp (own_of hk i)⟩
end
theorem js_if {a b : List Stmt} {cf : Env → M Bool} (hc : JT X E c1 cf) (ha : JSs X E a s) (hb : JSs X E b t) : JS X E (.If c1 a b pos) (sIf cf s t) := ⟨(ps_if hc.pt ha.ps hb.ps).imp fun Dn σ H ⟨v, g0, H0, g, env, W, K, a, hs, x, n, r, b, ct⟩ =>
  ⟨v, g, env, W, _, _, a.ok, a.eo, hs, x.mv a.gr, fun bb g1 H1 W1 h1 m1 o1 => by
    cases bb with
    | true =>
      rw [if_pos rfl]
      exact ⟨v, g0, H0, g1, env, W1, K, a.on m1 o1, h1, x, n.mv m1.le, r, b.mv m1.le, ct.mv m1.le⟩
    | false =>
      rw [if_neg Bool.false_ne_true]
      exact ⟨v, g0, H0, g1, env, W1, K, a.on m1 o1, h1, x, n.mv m1.le, r, b.mv m1.le, ct.mv m1.le⟩⟩⟩
/-! ### loops -/
def forM (gf : Gt) (s : SM) : List D → SM
  | [] => fun env W K => K.nx env W
  | d :: ds => fun env W K => match gf d env with
    | some env' => s env' W { K with nx := fun e w => forM gf s ds e w K, ct := fun e w => forM gf s ds e w K, bk := K.nx }
    | none => False
def sFor (src : Env → M (List D)) (gf : Gt) (s : SM) : SM := fun env W K => src env W (fun ds W' => forM gf s ds env W' K) K.ex
theorem js_for {iter : Expr} {body : List Stmt} {src : Env → M (List D)} (G : Gx X E) (go : GOwn S gf) (hi : JI X E true tg iter src) (hg : JG X tg S gf) (hb : JSs X E body s)
    (hs : ∀ x, foldedSetIterable iter X.env x = pure x := by intro _; rfl) : JS X E (.For tg iter body [] pos) (sFor src gf s) := ⟨(ps_for G.po G.calm hi.pi hg.pg hb.ps hs).imp fun Dn σ H ⟨v, g0, H0, g, env, W, K, a, hs, x, n, r, b, ct⟩ =>
  ⟨v, g, env, W, _, _, a.ok, a.eo, hs, x.mv a.gr, fun ds g1 H1 W1 J h1 m1 o1 ⟨zl, Gp, Yt, wk, hG, hY⟩ => by
    refine for_it wk (Pv := fun i σ H => ∃ g' env' W', GLe g1 g' ∧ At (Cx.ct X) v g0 H0 g' σ H env' W' ∧ forM gf s (ds.drop i) env' W' K) ⟨g1, env, W1, GLe.refl _, a.on m1 o1, h1⟩ (fun i σ H hi ⟨g', env', W', l, a', _⟩ => hG g' H W' l a'.ok) ?_ ?_
    · intro i xv σ2 H2 H3 hi ⟨g2, env2, W2, l2, a2, hf⟩ hy
      obtain ⟨g3, dx, e3, m4, o4, r4⟩ := hY i H2 xv H3 g2 W2 l2 a2.ok hi hy
      have e5 : ds.drop i = dx :: ds.drop (i + 1) := by
        rw [List.getElem?_eq_getElem hi] at e3
        cases e3
        exact List.drop_eq_getElem_cons hi
      rw [e5] at hf
      unfold forM at hf
      cases e6 : gf dx env2 with
      | none => rw [e6] at hf; exact hf.elim
      | some env3 =>
        rw [e6] at hf
        refine ⟨v, g3, env2, W2, dx, env3, o4, a2.eo.mono m4, r4, e6, fun σ3 eo3 l3 s3 => ⟨v, g0, H0, g3, env3, W2, _, ⟨a2.gr.trans m4, o4, eo3, fun j dj p q1 q2 => ?_⟩, hf, x, ?_, r, ?_, ?_⟩⟩
        · obtain ⟨z, q3⟩ := go dx env2 env3 e6 j dj q1
          rw [s3 j z] at q2
          exact a2.new j dj p q3 q2
        · exact fun env4 σ4 g4 H4 W4 p l a4 => ⟨g4, env4, W4, (l2.trans m4.le).trans l, a4, p⟩
        · exact fun env4 σ4 g4 H4 W4 p l a4 => n env4 σ4 g4 H4 W4 p (((m1.le.trans l2).trans m4.le).trans l) a4
        · exact fun env4 σ4 g4 H4 W4 p l a4 => ⟨g4, env4, W4, (l2.trans m4.le).trans l, a4, p⟩
    · intro σ2 H2 ⟨g2, env2, W2, l2, a2, hf⟩
      rw [List.drop_length] at hf
      exact n env2 σ2 g2 H2 W2 hf (m1.le.trans l2) a2⟩⟩
def whM (cf : Env → M Bool) (s : SM) : Nat → SM
  | 0 => fun _ _ _ => False
  | k + 1 => fun env W K => cf env W (fun b W' => match b with
    | true => s env W' { K with nx := fun e w => whM cf s k e w K, ct := fun e w => whM cf s k e w K, bk := K.nx }
    | false => K.nx env W') K.ex
def sWhile (cf : Env → M Bool) (s : SM) : SM := fun env W K => ∃ k, whM cf s k env W K
theorem js_while {body : List Stmt} {cf : Env → M Bool} (G : Gx X E) (hc : JT X E c1 cf) (hb : JSs X E body s) : JS X E (.While c1 body [] pos) (sWhile cf s) := ⟨(ps_while G.po hc.pt hb.ps).imp fun Dn σ H ⟨v, g0, H0, g, env, W, K, a, ⟨k, hs⟩, x, n, r, b, ct⟩ => by
  refine ⟨fun m σ H => ∃ g' env' W', GLe g g' ∧ At (Cx.ct X) v g0 H0 g' σ H env' W' ∧ whM cf s m env' W' K, ⟨k, g, env, W, GLe.refl _, a, hs⟩, fun m σ1 H1 ⟨g1, env1, W1, l1, a1, h1⟩ => ?_⟩
  cases m with
  | zero => exact h1.elim
  | succ m =>
    refine ⟨v, g1, env1, W1, _, _, a1.ok, a1.eo, h1, x.mv a1.gr, fun bb g2 H2 W2 h2 m2 o2 => ?_⟩
    cases bb with
    | false =>
      rw [if_neg Bool.false_ne_true]
      exact n env1 σ1 g2 H2 W2 h2 (l1.trans m2.le) (a1.on m2 o2)
    | true =>
      rw [if_pos rfl]
      exact ⟨_, fun σ' H' q => ⟨m, Nat.lt_succ_self m, q⟩, v, g0, H0, g2, env1, W2, _, a1.on m2 o2, h2, x, fun env4 σ4 g4 H4 W4 p l a4 => ⟨g4, env4, W4, (l1.trans m2.le).trans l, a4, p⟩, r,
        fun env4 σ4 g4 H4 W4 p l a4 => n env4 σ4 g4 H4 W4 p ((l1.trans m2.le).trans l) a4, fun env4 σ4 g4 H4 W4 p l a4 => ⟨g4, env4, W4, (l1.trans m2.le).trans l, a4, p⟩⟩⟩
end
end Y

set_option maxRecDepth 100000
set_option maxHeartbeats 2000000
namespace Y
open PySem PySem.Spec PyProof.Rows L2

/-! ### name = [..], name op= e -/
section
variable {X : Cx} {E : XK} {e elt tg iter : Expr} {ifs : List Expr} {scope : Scope} {own : List (Str × Nat)} {pos spos py p1 p2 p3 p4 : Pos} {S : List Nat} {gf : Gt} {cf : Env → M Bool} {ef f fk fv : Env → M D} {src : Env → M (List D)} {x : Str} (i : Nat)
theorem asgN_of {c : Ct} : ∀ Dn σ H, tS c E (sAsg (gN i) f) Dn σ H → tAsg (tD c E .st f) (gName i) Dn σ H := fun Dn σ H q => by
  obtain ⟨v, g, env, W, R, ER, o, eo, hf, x, q⟩ := asg_of (E := E) (S := [i]) (gown_name i) Dn σ H q
  exact ⟨v, g, env, W, R, ER, o, eo, hf, x, fun u d g1 H1 W1 h1 m1 o1 w1 => by
    obtain ⟨v2, g2, env2, W2, d2, env3, o2, eo2, r2, e2, q2⟩ := q u d g1 H1 W1 h1 m1 o1 w1
    cases e2
    exact q2 _ (eo2.set r2) (List.length_set ..) fun j hj => by rw [List.getElem?_set_ne fun z => hj (by rw [z]; exact List.mem_singleton.mpr rfl)]⟩
theorem js_setLc (hc : X.calm = true) (hN : X.N.Nodup) (hi : JI X E false tg iter src) (ok : BlkOk X.N X.env.scope scope own) (hg : ∀ (s : Shared) (H : Hp) (C : Addr) (cl : List (Str × Addr)) (fp : List Addr), JG (X.blk s H scope (compEnvC scope cl C X.env) fp) tg S gf) (ht : ∀ (s : Shared) (H : Hp) (C : Addr) (cl : List (Str × Addr)) (fp : List Addr), JTs (X.blk s H scope (compEnvC scope cl C X.env) fp) E0 ifs cf) (he : ∀ (s : Shared) (H : Hp) (C : Addr) (cl : List (Str × Addr)) (fp : List Addr), JE (X.blk s H scope (compEnvC scope cl C X.env) fp) E0 .st elt ef)
    (hy : X.N[i]? = some x := by rfl) (hyl : X.env.scope.names.lookup x = some .local := by rfl) (hsw : swapsWith (.ListComp elt [⟨tg, iter, ifs, 0⟩] scope pos) (some (.Name x py)) spos.line X.env = pure true := by rfl)
    (hS : ∀ j ∈ S, j ∈ own.map (·.2) := by decide) (hs : ∀ x, foldedSetIterable iter X.env x = pure x := by intro _; rfl) : JS X E (.Assign [.Name x py] (.ListComp elt [⟨tg, iter, ifs, 0⟩] scope pos) spos) (sAsg (gN i) (eLc (own.map (·.2)) gf cf ef src)) :=
  ⟨(ps_setLc hc hN hy hyl hsw hi.pi ok (fun s H C cl fp => (hg s H C cl fp).pg) (fun s H C cl fp => (ht s H C cl fp).pt) (fun s H C cl fp => (he s H C cl fp).pe) hs).imp fun Dn σ H h => by
    obtain ⟨v, g, env, W, R, ER, o, eo, hf, xw, q⟩ := asgN_of (E := E) i Dn σ H h
    exact lc_of (X := X) σ H _ hS ⟨v, g, env, W, R, ER, o, eo, hf, xw, q.frOf⟩⟩
theorem js_ownLc (hc : X.calm = true) (hN : X.N.Nodup) (hi : JI X E false tg iter src) (ok : BlkOk X.N X.env.scope scope own) (hg : ∀ (s : Shared) (H : Hp) (C : Addr) (cl : List (Str × Addr)) (fp : List Addr), JG (X.blk s H scope (compEnvC scope cl C X.env) fp) tg S gf) (ht : ∀ (s : Shared) (H : Hp) (C : Addr) (cl : List (Str × Addr)) (fp : List Addr), JTs (X.blk s H scope (compEnvC scope cl C X.env) fp) E0 ifs cf) (he : ∀ (s : Shared) (H : Hp) (C : Addr) (cl : List (Str × Addr)) (fp : List Addr), JE (X.blk s H scope (compEnvC scope cl C X.env) fp) E0 .st elt ef)
    (hy : X.N[i]? = some x := by rfl) (hyl : X.env.scope.names.lookup x = some .local := by rfl) (hsw : swapsWith (.ListComp elt [⟨tg, iter, ifs, 0⟩] scope pos) (some (.Name x py)) spos.line X.env = pure true := by rfl)
    (hS : ∀ j ∈ S, j ∈ own.map (·.2) := by decide) (hs : ∀ x, foldedSetIterable iter X.env x = pure x := by intro _; rfl) : JS X E (.Assign [.Name x py] (.ListComp elt [⟨tg, iter, ifs, 0⟩] scope pos) spos) (sOwn i (eLc (own.map (·.2)) gf cf ef src)) :=
  ⟨(ps_setLc hc hN hy hyl hsw hi.pi ok (fun s H C cl fp => (hg s H C cl fp).pg) (fun s H C cl fp => (ht s H C cl fp).pt) (fun s H C cl fp => (he s H C cl fp).pe) hs).imp fun Dn σ H h =>
    lc_of (X := X) σ H _ hS (own_of (c := Cx.ct X) (E := E) (Or.inl rfl) i Dn σ H h)⟩
def sAug (F : D → D → M D) (f : Env → M D) : SM := fun env W K => match env[i]? with
  | some (.v x) => f env W (fun y W' => F x y W' (fun z W2 => K.nx (env.set i (.v z)) W2) K.ex) K.ex
  | _ => False
theorem js_aug {op : Operator} {ti : TIp} {F : D → D → M D} (ho : PIp X op ti) (h2 : Op2 (Cx.ct X) .st ti F) (he : JE X E .wk e f) (hN : X.N.Nodup) (hi : X.N[i]? = some x := by rfl) (hx : Loc X.env.scope x := by first | exact Or.inl rfl | exact Or.inr rfl) (hf : X.fn x = true ∨ X.env.scope.names.lookup x = some .local := by first | exact Or.inl rfl | exact Or.inr rfl) :
    JS X E (.AugAssign (.Name x p1) op e pos) (sAug i F f) := ⟨(ps_aug hN hi hx he.pe ho hf).imp fun Dn σ H ⟨v, g0, H0, g, env, W, K, a, hs, xw, n, r, b, ct⟩ => by
    unfold sAug at hs
    cases q : env[i]? with
    | none => rw [q] at hs; exact hs.elim
    | some sl =>
      rw [q] at hs
      cases sl with
      | v dx =>
        obtain ⟨u, eu, ru⟩ := a.eo.sl i _ q
        exact ⟨u, eu, v, g, env, W, _, _, a.ok, a.eo, hs, xw.mv a.gr, fun w dy g1 H1 W1 h1 m1 o1 w1 => h2 v g1 H1 W1 _ _ _ u w dx dy o1 (.inl (ru.mono m1.le)) w1 h1 fun z dz g2 H2 W2 h3 m2 o2 w2 => by
          have a2 := (a.on m1 o1).on m2 o2
          refine n _ _ g2 H2 W2 h3 (m1.le.trans m2.le) ⟨a2.gr, a2.ok, a2.eo.set w2, fun j dj p q1 q2 => ?_⟩
          obtain ⟨z3, q3⟩ := gown_name i dz env _ rfl j dj q1
          rw [List.getElem?_set_ne fun z => z3 (by rw [z]; exact List.mem_singleton.mpr rfl)] at q2
          exact a2.new j dj p q3 q2⟩
      | _ => exact hs.elim⟩
def dAddI : D → D → M D
  | .int a, .int b => ret (.int (a + b))
  | _, _ => fail
theorem op2_ipadd {c : Ct} : Op2 c .st (ipI fun i j => i + j) dAddI := by
  intro v g H W R ER Q u w x y o hx hy hf q
  cases x with
  | int a =>
    cases y with
    | int b =>
      cases hx.int
      cases hy.int
      exact ⟨a, b, rfl, rfl, q.now o hf (.int _)⟩
    | _ => exact hf.elim
  | _ => exact hf.elim
theorem op2_ipsub {c : Ct} : Op2 c .st (ipI fun i j => i - j) dSub := by
  intro v g H W R ER Q u w x y o hx hy hf q
  cases x with
  | int a =>
    cases y with
    | int b =>
      cases hx.int
      cases hy.int
      exact ⟨a, b, rfl, rfl, q.now o hf (.int _)⟩
    | _ => exact hf.elim
  | _ => exact hf.elim

/-! ### changes of one's own lists and dicts -/
def sApp (f : Env → M D) : SM := fun env W K => match env[i]? with
  | some (.o (.lst xs)) => f env W (fun d W' => xs.length < sizeLine ∧ K.nx (env.set i (.o (.lst (xs ++ [d])))) W') K.ex
  | _ => False
def sExt (f : Env → M D) : SM := fun env W K => match env[i]? with
  | some (.o (.lst xs)) => f env W (fun d W' => match d with
    | .lst ys => xs.length + ys.length ≤ sizeLine ∧ K.nx (env.set i (.o (.lst (xs ++ ys)))) W'
    | _ => False) K.ex
  | _ => False
theorem js_append (he : JE X E .st e f) (hN : X.N[i]? = some x := by rfl) (hv : Vis X.env.scope x := by first | exact Or.inl rfl | exact Or.inr (Or.inl rfl) | exact Or.inr (Or.inr rfl)) (hd : (x == ("__debug__" : Str)) = false := by decide) (hcd : (x == ("__classdict__" : Str)) = false := by decide)
    (hbase : attributeBase (.Name x p1) "append" X.env (eval (.Name x p1) X.env) = eval (.Name x p1) X.env := by rfl)
    (hfew : ((backTo p3 (starEach [e] X.env)).all (fun x => !x.1) && (backToKw p3 (keywordEach [] X.env)).all (fun x => x.1.isSome) && decide ([e].length + ([] : List Keyword).length + (if ([] : List Keyword).isEmpty then 0 else 1) < 30)) = true := by rfl)
    (hline : (p2.endLine == p3.line) = true := by rfl) (hs : starEach [e] X.env = (false, eval e X.env) :: starEach [] X.env := by rfl) (hpl : (backTo p3 (starEach [] X.env)).any (·.1) = false := by rfl) (hsw : swapsWith (.Call (.Attribute (.Name x p1) "append" p2) [e] [] p3) none p4.line X.env = pure false := by rfl) :
    JS X E (.Expr (.Call (.Attribute (.Name x p1) "append" p2) [e] [] p3) p4) (sApp i f) :=
  ⟨(ps_expr (pe_bm PySem.F.plainAttrs_list PySem.F.slot_list_append PySem.F.type_list_append mt_append (pe_var hN hv hd hcd) (pa_cons he.pe pa_nil hs) hbase hfew hline hs hpl) hsw).imp fun Dn σ H ⟨v, g0, H0, g, env, W, K, a, hs, xw, n, r, b, ct⟩ => by
    unfold sApp at hs
    split at hs
    · rename_i xs q
      obtain ⟨p, ep, h1, h2, h3, ⟨vs, z, eh, k⟩, h5⟩ := a.ownd q
      refine ⟨_, ep, .inl ⟨rfl, vs, SqL.of eh⟩, v, g, env, W, _, _, a.ok, a.eo, hs, xw.mv a.gr, fun w dy g1 H1 W1 ⟨l1, k1⟩ m1 o1 w1 => ?_⟩
      have a1 := a.on m1 o1
      have w1 : Rep (Cx.ct X) v.rw g1 w dy := w1
      have eh1 : H1 p = some (.lst vs) := m1.hL eh h3 h2
      have kl := k.length
      exact ⟨p, vs, w, rfl, rfl, eh1, by omega, n _ _ g1 _ W1 k1 m1.le (a1.write q ep ⟨vs ++ [w], by rw [List.length_append, List.length_singleton]; omega, upd_same, (k.mono m1.le).append (.cons w1 .nil)⟩)⟩
    · exact hs.elim⟩
theorem js_extend (he : JE X E .wk e f) (hN : X.N[i]? = some x := by rfl) (hv : Vis X.env.scope x := by first | exact Or.inl rfl | exact Or.inr (Or.inl rfl) | exact Or.inr (Or.inr rfl)) (hd : (x == ("__debug__" : Str)) = false := by decide) (hcd : (x == ("__classdict__" : Str)) = false := by decide)
    (hbase : attributeBase (.Name x p1) "extend" X.env (eval (.Name x p1) X.env) = eval (.Name x p1) X.env := by rfl)
    (hfew : ((backTo p3 (starEach [e] X.env)).all (fun x => !x.1) && (backToKw p3 (keywordEach [] X.env)).all (fun x => x.1.isSome) && decide ([e].length + ([] : List Keyword).length + (if ([] : List Keyword).isEmpty then 0 else 1) < 30)) = true := by rfl)
    (hline : (p2.endLine == p3.line) = true := by rfl) (hs : starEach [e] X.env = (false, eval e X.env) :: starEach [] X.env := by rfl) (hpl : (backTo p3 (starEach [] X.env)).any (·.1) = false := by rfl) (hsw : swapsWith (.Call (.Attribute (.Name x p1) "extend" p2) [e] [] p3) none p4.line X.env = pure false := by rfl) :
    JS X E (.Expr (.Call (.Attribute (.Name x p1) "extend" p2) [e] [] p3) p4) (sExt i f) :=
  ⟨(ps_expr (pe_bm PySem.F.plainAttrs_list PySem.F.slot_list_extend PySem.F.type_list_extend mt_extend (pe_var hN hv hd hcd) (pa_cons he.pe pa_nil hs) hbase hfew hline hs hpl) hsw).imp fun Dn σ H ⟨v, g0, H0, g, env, W, K, a, hs, xw, n, r, b, ct⟩ => by
    unfold sExt at hs
    split at hs
    · rename_i xs q
      obtain ⟨p, ep, h1, h2, h3, ⟨vs, z, eh, k⟩, h5⟩ := a.ownd q
      refine ⟨_, ep, .inl ⟨rfl, vs, SqL.of eh⟩, v, g, env, W, _, _, a.ok, a.eo, hs, xw.mv a.gr, fun w dy g1 H1 W1 hh m1 o1 w1 => ?_⟩
      dsimp only at hh
      split at hh
      · rename_i ys
        obtain ⟨l1, k1⟩ := hh
        have a1 := a.on m1 o1
        obtain ⟨p', ws, rfl, z2, eh2, k2⟩ := Wk.lst o1 w1
        have eh1 : H1 p = some (.lst vs) := m1.hL eh h3 h2
        have kl := k.length
        have kl2 := k2.length
        exact ⟨p, p', vs, ws, rfl, rfl, eh1, eh2, by omega, n _ _ g1 _ W1 k1 m1.le (a1.write q ep ⟨vs ++ ws, by rw [List.length_append]; omega, upd_same, (k.mono m1.le).append k2⟩)⟩
      · exact hh.elim
    · exact hs.elim⟩
def putD (kvs : List (Key × D)) (k : Key) (d : D) : List (Key × D) := if (kvs.any fun kv => decide (kv.1 = k)) = true then kvs.map (fun kv => if kv.1 = k then (kv.1, d) else kv) else kvs ++ [(k, d)]
section
variable {c : Ct} {r : Addr} {g : Gd} {us : List (Key × V)} {ds : List (Key × D)} {u : V} {d : D}
theorem RepKV.any (k : Key) : ∀ {us : List (Key × V)} {ds : List (Key × D)}, RepKV c r g us ds → (us.any fun kv => decide (kv.1 = k)) = (ds.any fun kv => decide (kv.1 = k))
  | _, _, .nil => rfl
  | _, _, .cons h t => by rw [List.any_cons, List.any_cons, RepKV.any k t]
theorem RepKV.map (k : Key) (r1 : Rep c r g u d) : ∀ {us : List (Key × V)} {ds : List (Key × D)}, RepKV c r g us ds → RepKV c r g (us.map fun kv => if kv.1 = k then (kv.1, u) else kv) (ds.map fun kv => if kv.1 = k then (kv.1, d) else kv)
  | _, _, .nil => .nil
  | _, _, .cons (k := k') h t => by
    rw [List.map_cons, List.map_cons]
    by_cases e : k' = k
    · simp only [e, if_true]
      exact .cons r1 (RepKV.map k r1 t)
    · simp only [e, if_false]
      exact .cons h (RepKV.map k r1 t)
theorem RepKV.snoc (k : Key) (r1 : Rep c r g u d) : ∀ {us : List (Key × V)} {ds : List (Key × D)}, RepKV c r g us ds → RepKV c r g (us ++ [(k, u)]) (ds ++ [(k, d)])
  | _, _, .nil => .cons r1 .nil
  | _, _, .cons h t => .cons h (RepKV.snoc k r1 t)
theorem RepKV.put (k : Key) (r1 : Rep c r g u d) (h : RepKV c r g us ds) : RepKV c r g (putK us k u) (putD ds k d) := by
  unfold putK putD
  rw [h.any k]
  split
  · exact h.map k r1
  · exact h.snoc k r1
theorem putK_len (kvs : List (Key × V)) (k : Key) (v : V) : (putK kvs k v).length ≤ kvs.length + 1 := by
  unfold putK
  split
  · rw [List.length_map]; omega
  · rw [List.length_append, List.length_singleton]; omega
end
def putO : D → D → D → Option D
  | .lst xs, .int j, d => (ixN xs.length j).map fun n => .lst (xs.set n d)
  | .dct kvs, k, d => k.key.bind fun kk => if kvs.length < sizeLine then some (.dct (putD kvs kk d)) else none
  | _, _, _ => none
abbrev rPut : TSet := fun o i v H Q => rSetL o i v H Q ∨ rSetD o i v H Q
theorem set_put (hu : X.A.units + 100 < cLine) : PSet X rPut := fun pins s σ H o i v ov iv u Q I ro ri rv h => h.elim (set_list pins s σ H o i v ov iv u Q I ro ri rv) (set_dict (by omega) pins s σ H o i v ov iv u Q I ro ri rv)
/-- a store into one's own thing -/
theorem At.put {c : Ct} {v : Vo} {g0 g : Gd} {H0 H : Hp} {W : List MO} {σ : L2.St} {env : Env} (a : At c v g0 H0 g σ H env W) {i : Nat} {o k d o' : D} {p : Addr} {ku u : V} (e : env[i]? = some (.o o)) (ep : σ[i]? = some (some (.ref p))) (rk : Wk c v g H ku k) (rd : Rep c v.rw g u d) (hp : putO o k d = some o')
    {Q : Hp → Prop} (q : ∀ H', At c v g0 H0 g σ H' (env.set i (.o o')) W → Q H') : rPut (.ref p) ku u H Q := by
  obtain ⟨p', e1, h1, h2, h3, h4, h5⟩ := a.ownd e
  rw [ep] at e1
  cases e1
  cases o with
  | lst xs =>
    obtain ⟨vs, z, eh, kk⟩ := h4
    cases k with
    | int j =>
      cases rk.int
      have hp : (ixN xs.length j).map (fun n => D.lst (xs.set n d)) = some o' := hp
      cases en : ixN xs.length j with
      | none => rw [en] at hp; cases hp
      | some n =>
        rw [en] at hp
        cases hp
        exact .inl ⟨p, vs, j, n, rfl, rfl, eh, by rw [kk.length]; exact en, q _ (a.write e ep ⟨vs.set n u, by rw [List.length_set]; exact z, upd_same, kk.set rd n⟩)⟩
    | _ => cases hp
  | dct kvs =>
    obtain ⟨vs, z, eh, kk⟩ := h4
    have hp : (k.key.bind fun kk => if kvs.length < sizeLine then some (D.dct (putD kvs kk d)) else none) = some o' := by cases k <;> exact hp
    cases ek : k.key with
    | none => rw [ek] at hp; cases hp
    | some key =>
      rw [ek, Option.bind_some] at hp
      split at hp
      · rename_i hl
        cases hp
        cases rk.key ek
        have kl := kk.length
        have pl := putK_len vs key u
        exact .inr ⟨p, _, rfl, DPut.k eh (by omega), q _ (a.write e ep ⟨putK vs key u, by omega, upd_same, kk.put key rd⟩)⟩
      · cases hp
  | _ => exact h4.elim
def sPut (fk fv : Env → M D) : SM := fun env W K => match env[i]? with
  | some (.o o) => fv env W (fun d W1 => fk env W1 (fun k W2 => match putO o k d with
    | some o' => K.nx (env.set i (.o o')) W2
    | none => False) K.ex) K.ex
  | _ => False
theorem js_put {ke : Expr} (hu : X.A.units + 100 < cLine) (hk : JE X E .wk ke fk) (he : JE X E .st e fv) (hN : X.N[i]? = some x := by rfl) (hv : Vis X.env.scope x := by first | exact Or.inl rfl | exact Or.inr (Or.inl rfl) | exact Or.inr (Or.inr rfl)) (hd : (x == ("__debug__" : Str)) = false := by decide) (hcd : (x == ("__classdict__" : Str)) = false := by decide)
    (ha : ∀ v, assign (.Subscript (.Name x p1) ke p2) X.env v = (do
      let ov ← holding [v] (eval (.Name x p1) X.env)
      let iv ← holding [v, ov] (eval ke X.env)
      standAt p2
      holding [v, ov, iv] (setItem ov iv v)
      release [v, ov, iv] []) := by intro _; rfl) (hs : swapsWithSole [.Subscript (.Name x p1) ke p2] e p3.line X.env = pure false := by rfl) (hw : swappedStores [.Subscript (.Name x p1) ke p2] e X.env = pure none := by rfl)
    (h1 : (assignEach [.Subscript (.Name x p1) ke p2] X.env).map (·.2) = [assign (.Subscript (.Name x p1) ke p2) X.env] := by rfl) : JS X E (.Assign [.Subscript (.Name x p1) ke p2] e p3) (sPut i fk fv) :=
  ⟨(ps_asg he.pe (pg_sub (pe_var hN hv hd hcd) hk.pe (set_put hu) ha) hs hw h1).imp fun Dn σ H ⟨v, g0, H0, g, env, W, K, a, hs, xw, n, r, b, ct⟩ =>
    by
      unfold sPut at hs
      split at hs
      · rename_i o q
        obtain ⟨p, ep, _⟩ := a.ownd q
        exact ⟨v, g, env, W, _, _, a.ok, a.eo, hs, xw.mv a.gr, fun u d g1 H1 W1 hh m1 o1 w1 => ⟨_, ep, v, g1, env, W1, _, _, o1, (a.on m1 o1).eo, hh, xw.mv (a.gr.trans m1), fun ku k g2 H2 W2 h2 m2 o2 w2 => by
          dsimp only at h2
          split at h2
          · rename_i o' q2
            have w1 : Rep (Cx.ct X) v.rw g1 u d := w1
            exact ((a.on m1 o1).on m2 o2).put q ep w2 (w1.mono m2.le) q2 fun H' a' => n _ _ g2 H' W2 h2 (m1.le.trans m2.le) a'
          · exact h2.elim⟩⟩
      · exact hs.elim⟩
abbrev rGetL (K : PySem.W.Frag) : V → V → Hp → VK → Prop := fun x y H Q => ∃ p xs j v, x = .ref p ∧ y = .int ((j : Nat) : Int) ∧ SqL K H p xs ∧ xs[j]? = some v ∧ Q v H
theorem get_listN : PGet X (rGetL X.K) := fun pins s σ H o i ov iv Q I ro ri ⟨p, xs, j, v, eo, ei, hq, ev, q⟩ => by
  subst eo
  subst ei
  cases ro
  obtain ⟨t, rfl⟩ := ri
  obtain ⟨its, r, pl, hz⟩ := I.list hq
  obtain ⟨w, ew, rw'⟩ := r.get ev
  have hl := r.length
  have hn := line63
  have hj := (List.getElem?_eq_some_iff.mp ev).1
  exact wpAny_getItem_list pl.isList (by omega) (by omega) (by rw [Int.toNat_natCast, List.getElem?_toArray]; exact ew) ⟨v, H, I, rw', q⟩
def sAugIx (F : D → D → M D) (fk f : Env → M D) : SM := fun env W K => match env[i]? with
  | some (.o (.lst xs)) => fk env W (fun k W1 => match k with
    | .int j => match xs[j.toNat]? with
      | some old => 0 ≤ j ∧ f env W1 (fun y W2 => F old y W2 (fun z W3 => K.nx (env.set i (.o (.lst (xs.set j.toNat z)))) W3) K.ex) K.ex
      | none => False
    | _ => False) K.ex
  | _ => False
theorem js_augIx {ke : Expr} {op : Operator} {ti : TIp} {F : D → D → M D} (hu : X.A.units + 100 < cLine) (ho : PIp X op ti) (hF : Op2 (Cx.ct X) .st ti F) (hk : JE X E .wk ke fk) (he : JE X E .wk e f) (hN : X.N[i]? = some x := by rfl) (hv : Vis X.env.scope x := by first | exact Or.inl rfl | exact Or.inr (Or.inl rfl) | exact Or.inr (Or.inr rfl)) (hd : (x == ("__debug__" : Str)) = false := by decide) (hcd : (x == ("__classdict__" : Str)) = false := by decide)
    (ha : ∀ ov iv new, augStore ke ov iv new = (do holding [new, ov, iv] (setItem ov iv new); release [new, ov, iv] []; pure .next) := by intros; rfl) : JS X E (.AugAssign (.Subscript (.Name x p1) ke p2) op e p3) (sAugIx i F fk f) :=
  ⟨(ps_augS (pe_var hN hv hd hcd) hk.pe get_listN he.pe ho (set_put hu) ha).imp fun Dn σ H ⟨v, g0, H0, g, env, W, K, a, hs, xw, n, r, b, ct⟩ => by
    unfold sAugIx at hs
    split at hs
    · rename_i xs q
      obtain ⟨p, ep, h1, h2, h3, ⟨vs, z, eh, k⟩, h5⟩ := a.ownd q
      refine ⟨_, ep, v, g, env, W, _, _, a.ok, a.eo, hs, xw.mv a.gr, fun w dy g1 H1 W1 hh m1 o1 w1 => ?_⟩
      dsimp only at hh
      split at hh
      · rename_i j
        split at hh
        · rename_i old eold
          obtain ⟨j0, hh⟩ := hh
          cases w1.int
          obtain ⟨uo, euo, ruo⟩ := k.get eold
          have a1 := a.on m1 o1
          refine ⟨p, vs, j.toNat, uo, rfl, by rw [Int.toNat_of_nonneg j0], SqL.of (m1.hL eh h3 h2), euo, v, g1, env, W1, _, _, o1, a1.eo, hh, xw.mv a1.gr, fun y dy2 g2 H2 W2 k2 m2 o2 w2 => ?_⟩
          refine hF v g2 H2 W2 _ _ _ uo y old dy2 o2 (.inl (ruo.mono (m1.le.trans m2.le))) w2 k2 fun zz dz g3 H3 W3 k3 m3 o3 w3 => ?_
          have a3 := (a1.on m2 o2).on m3 o3
          have hl : j.toNat < xs.length := (List.getElem?_eq_some_iff.mp eold).1
          refine a3.put q ep (k := .int j) (.inl (.int j)) w3 (o' := .lst (xs.set j.toNat dz)) ?_ fun H' a' => n _ _ g3 H' W3 k3 ((m1.le.trans m2.le).trans m3.le) a'
          show (ixN xs.length j).map _ = _
          have : ixN xs.length j = some j.toNat := by
            unfold ixN
            rw [if_pos j0, if_pos (by omega)]
          rw [this]
          rfl
        · exact hh.elim
      · exact hh.elim
    · exact hs.elim⟩
end
end Y

set_option maxRecDepth 100000
set_option maxHeartbeats 2000000
namespace Y
open PySem PySem.Spec PyProof.Rows L2

/-! ### defs -/
section
variable {P : Program} {w : World} {K : PySem.W.Frag} {mg : Str → Option Value} {base : Heap} {k : Nat} {f : Addr} {fd : FuncData} {ps : List Str} {sp : Sp}
/-- a def keeps its promise, wherever ga holds of what runs around -/
structure FGg (ga : Around → Prop) (P : Program) (w : World) (K : PySem.W.Frag) (mg : Str → Option Value) (base : Heap) (k : Nat) (f : Addr) (fd : FuncData) (ps : List Str) (sp : Sp) : Prop where
  len : ∀ vs H Q E, sp vs H Q E → vs.length = ps.length
  run : ∀ (A : Around) (outer : List PySem.Env) (s : Shared) (H : Hp) (args : Args) (us : List Value) (vs : List V) (Q : VK) (E : XK), Room k A → ga A → Env0 P w K mg base A outer s H → BindsTo s fd args (ps.zip us) → Vals vs us → sp vs H Q E →
    codeAny (model P w) A (.call (.ref f) args) (CR (L2.CX P w) outer P w H s Q E) s
abbrev FG := FGg fun _ => True
theorem FG.mono {j : Nat} (F : FG P w K mg base j f fd ps sp) (h : j ≤ k) : FG P w K mg base k f fd ps sp := ⟨F.len, fun A outer s H args us vs Q E hr => F.run A outer s H args us vs Q E (hr.mono h)⟩
theorem FG.imp {sp' : Sp} (F : FG P w K mg base k f fd ps sp) (h : ∀ vs H Q E, sp' vs H Q E → sp vs H Q E) : FG P w K mg base k f fd ps sp' :=
  ⟨fun vs H Q E q => F.len _ _ _ _ (h vs H Q E q), fun A outer s H args us vs Q E hr hg e0 hb r q => F.run A outer s H args us vs Q E hr hg e0 hb r (h _ _ _ _ q)⟩
/-- the promise of a def, as data -/
def spD (c : Ct) (n : Nat) (sem : List D → M D) : Sp := fun vs H Q E => ∃ v g W ds R ER, vs.length = n ∧ Ok c v g H W ∧ RepAll c v.rw g vs ds ∧ sem ds W R ER ∧ XW c v g H E ER ∧ Cont c v .st g H R Q
def startE (N : List Str) (ds : List D) : Env := ds.map .v ++ List.replicate (N.length - ds.length) .no
def semF (N : List Str) (s : SM) : List D → M D := fun ds W R ER => s (startE N ds) W ⟨fun _ W' => R .non W', R, fun _ _ => False, fun _ _ => False, ER⟩
abbrev Xf (P : Program) (w : World) (K : PySem.W.Frag) (mg : Str → Option Value) (base : Heap) (N : List Str) (qual : Str) (scope : Scope) (f : Addr) (cdv : Value) (A : Around) (outer : List PySem.Env) (s : Shared) (H : Hp) (E : XK) : Cx :=
  cxOf (L2.CX P w) P w K mg base N qual scope f cdv A outer s H E
theorem start_len {N : List Str} {ds : List D} (h : ds.length ≤ N.length) : (startE N ds).length = N.length := by
  unfold startE
  rw [List.length_append, List.length_map, List.length_replicate]
  omega
theorem start_ok {c : Ct} {v : Vo} {g : Gd} {H : Hp} {N : List Str} {us : List V} {ds : List D} (h : RepAll c v.rw g us ds) : EnvOk c v g H (start N us) (startE N ds) where
  len := by
    unfold L2.start startE
    rw [List.length_append, List.length_append, List.length_map, List.length_map, List.length_replicate, List.length_replicate, h.length]
  sl := fun i s q => by
    have hl := h.length
    by_cases z : i < ds.length
    · unfold startE at q
      rw [List.getElem?_append_left (by rw [List.length_map]; exact z), List.getElem?_map] at q
      cases e : ds[i]? with
      | none => rw [e] at q; cases q
      | some d =>
        rw [e] at q
        cases q
        obtain ⟨u, e2, r⟩ := h.get e
        refine ⟨u, ?_, r⟩
        unfold L2.start
        rw [List.getElem?_append_left (by rw [List.length_map]; omega), List.getElem?_map, e2]
        rfl
    · unfold startE at q
      rw [List.getElem?_append_right (by rw [List.length_map]; omega), List.getElem?_replicate] at q
      split at q
      · cases q
        exact True.intro
      · cases q
  ap := fun i j d e u q1 q2 q3 q4 => by
    exfalso
    unfold startE at q1
    by_cases z : i < (ds.map Sl.v).length
    · rw [List.getElem?_append_left z, List.getElem?_map] at q1
      cases e : ds[i]? with
      | none => rw [e] at q1; cases q1
      | some d => rw [e] at q1; cases q1
    · rw [List.getElem?_append_right (by omega), List.getElem?_replicate] at q1
      split at q1 <;> cases q1
theorem start_own {N : List Str} {ds : List D} {i : Nat} {d : D} (q1 : (startE N ds)[i]? = some (.o d)) : False := by
  unfold startE at q1
  by_cases z : i < (ds.map Sl.v).length
  · rw [List.getElem?_append_left z, List.getElem?_map] at q1
    cases e : ds[i]? with
    | none => rw [e] at q1; cases q1
    | some d => rw [e] at q1; cases q1
  · rw [List.getElem?_append_right (by omega), List.getElem?_replicate] at q1
    split at q1 <;> cases q1
/-- a call of a def's body, generally -/
theorem FGg.body {ga : Around → Prop} {x qual : Str} {st : Stmt} {N : List Str} (F : Fun K x qual st f fd) (S : FnScope N ps (defScope st)) (len : ∀ vs H Q E, sp vs H Q E → vs.length = ps.length)
    (hb : ∀ (cdv : Value) (A : Around) (outer : List PySem.Env) (s : Shared) (H : Hp) (vs : List V) (Q : VK) (E : XK), fd.code = cdv → ga A → Room k (A.deeper (envOfC qual (defScope st) s.heap.objs.size f cdv)) → Gx (Xf P w K mg base N qual (defScope st) f cdv A outer s H E) E → sp vs H Q E →
      ∃ t, PSs (Xf P w K mg base N qual (defScope st) f cdv A outer s H E) (defBody st) t ∧ t { nx := fun _ H' => Q .non H', rt := Q } (start N vs) H) : FGg ga P w K mg base (k + 1) f fd ps sp := by
  obtain ⟨oc, od, kV, doc, pm, an, cdv, ct, osl, rfl, lk, hcd⟩ := F.ex
  refine ⟨len, fun A outer s H args us vs Q E hr hgd e0 hbd r hsp => ?_⟩
  have hl := len _ _ _ _ hsp
  have stay : ∀ b o, base.get? b = some o → s.heap.get? b = some o := fun b o e => (e0.bs b o e).1
  have KX : K.In s.heap := e0.mod.kin.keeps stay
  refine codeAny_call_function hr.depth (KX _ _ lk) rfl S.co S.gen rfl (PySem.W.codeRec_of KX hcd) (hbd _ _ _ _ ?_)
  refine wpAny_newFunctionEnv_cells S.kind (fun y hy => ?_) fun env he s1 xx => ?_
  · rcases S.par y.1 (List.of_mem_zip hy).1 with q | q
    · exact .inl q
    · exact .inr ⟨q, PySem.W.cellsFrom_some _ _ _ (.inl q)⟩
  subst he
  refine ⟨(e0.mod.nolimit.keeps stay).keeps xx.toInCall.keep, codeAny_func ?_⟩
  have rm := hr.deeper (envOfC qual (defScope st) s.heap.objs.size f cdv)
  have G : Gx (Xf P w K mg base N qual (defScope st) f cdv A outer s H E) E := ⟨rfl, S.nd, by have := rm.un; show (A.deeper _).units + 100 < cLine; omega, takes_of rfl rfl rfl rfl, passes_of rfl⟩
  obtain ⟨t, ht, hq⟩ := hb cdv A outer s H vs Q E rfl hgd rm G hsp
  have I := inv_start (CX := L2.CX P w) (E := E) S hr.hd e0 hl r xx
  refine wpAny_mono (ht.run [] s1 (start N vs) H _ I hq) (fun fl s2 hs => ?_) fun e s2 hs => hs
  cases fl with
  | ret u =>
    obtain ⟨y, _, H2, J, ry, q⟩ := hs
    exact ⟨y, H2, J.os, J.bare, J.base, J.hok, ry, q⟩
  | next =>
    obtain ⟨_, H2, J, q⟩ := hs
    exact ⟨.non, H2, J.os, J.bare, J.base, J.hok, rfl, q⟩
  | brk => exact hs.elim fun _ h => h.elim fun _ h => h.2.elim
  | cont => exact hs.elim fun _ h => h.elim fun _ h => h.2.elim
/-- a def by its body's reading -/
theorem FGg.of {ga : Around → Prop} {x qual : Str} {st : Stmt} {N : List Str} {sm : SM} (F : Fun K x qual st f fd) (S : FnScope N ps (defScope st))
    (hb : ∀ (cdv : Value) (A : Around) (outer : List PySem.Env) (s : Shared) (H : Hp) (E : XK), fd.code = cdv → ga A → Room k (A.deeper (envOfC qual (defScope st) s.heap.objs.size f cdv)) → Gx (Xf P w K mg base N qual (defScope st) f cdv A outer s H E) E →
      JSs (Xf P w K mg base N qual (defScope st) f cdv A outer s H E) E (defBody st) sm) : FGg ga P w K mg base (k + 1) f fd ps (spD ⟨K, mg⟩ ps.length (semF N sm)) := by
  refine FGg.body F S (fun vs H Q E ⟨v, g, W, ds, R, ER, l, _⟩ => l) fun cdv A outer s H vs Q E hcv hga hr G ⟨v, g, W, ds, R, ER, l, o, ra, hs, xw, q⟩ => ⟨_, (hb cdv A outer s H E hcv hga hr G).ps, ?_⟩
  exact ⟨v, g, H, g, startE N ds, W, _, ⟨Gr.refl v g H, o, start_ok ra, fun i d p q1 _ => (start_own q1).elim⟩, hs, xw, fun env σ g' H' W' p _ a => q .non .non g' H' W' p a.gr a.ok .non, q, fun _ _ _ _ _ p => p.elim, fun _ _ _ _ _ p => p.elim⟩
theorem FG.of {x qual : Str} {st : Stmt} {N : List Str} {sm : SM} (F : Fun K x qual st f fd) (S : FnScope N ps (defScope st))
    (hb : ∀ (cdv : Value) (A : Around) (outer : List PySem.Env) (s : Shared) (H : Hp) (E : XK), Room k (A.deeper (envOfC qual (defScope st) s.heap.objs.size f cdv)) → Gx (Xf P w K mg base N qual (defScope st) f cdv A outer s H E) E →
      JSs (Xf P w K mg base N qual (defScope st) f cdv A outer s H E) E (defBody st) sm) : FG P w K mg base (k + 1) f fd ps (spD ⟨K, mg⟩ ps.length (semF N sm)) := FGg.of F S fun cdv A outer s H E _ _ => hb cdv A outer s H E
/-- a def that may be called by its name -/
structure Fn (P : Program) (w : World) (K : PySem.W.Frag) (mg : Str → Option Value) (base : Heap) (k : Nat) (x : Str) (n : Nat) (sem : List D → M D) : Prop where
  ex : ∃ (f : Addr) (fd : FuncData) (ps : List Str), FG P w K mg base k f fd ps (spD ⟨K, mg⟩ n sem) ∧ mg x = some (.ref f) ∧ PySem.W.keepIn K (.ref f) = true ∧ Binds K fd ps []
theorem Fn.mono {j n : Nat} {x : Str} {sem : List D → M D} (F : Fn P w K mg base j x n sem) (h : j ≤ k) : Fn P w K mg base k x n sem := let ⟨f, fd, ps, a, b⟩ := F.ex; ⟨f, fd, ps, a.mono h, b⟩
theorem Fn.imp {n : Nat} {x : Str} {sem sem' : List D → M D} (F : Fn P w K mg base k x n sem) (h : ∀ ds W R ER, sem' ds W R ER → sem ds W R ER) : Fn P w K mg base k x n sem' :=
  let ⟨f, fd, ps, a, b⟩ := F.ex
  ⟨f, fd, ps, a.imp fun vs H Q E ⟨v, g, W, ds, R, ER, l, o, ra, hs, xw, q⟩ => ⟨v, g, W, ds, R, ER, l, o, ra, h ds W R ER hs, xw, q⟩, b⟩
end
/-! ### calls -/
section
variable {X : Cx} {E : XK} {k n : Nat} {f : Addr} {fd : FuncData} {ps : List Str} {sp : Sp} {x : Str} {sem : List D → M D} {e : Expr} {es : List Expr} {fs : Env → M (List D)} {p pos : Pos}
theorem run_G {pins : List (Addr × Obj)} {σ : L2.St} {H : Hp} {s : Shared} {Q : VK} {us : List Value} {vs : List V} (F : FG X.prog X.w X.K X.mg X.base k f fd ps sp) (hr : Room k X.A) (hb : Binds X.K fd ps []) (hx : Passes (L2.CX X.prog X.w) X E)
    (I : L2.Inv X pins σ H s) (r : Vals vs us) (h : sp vs H Q E) : wpAny (model X.prog X.w) X.A (call (.ref f) us) (EP X pins σ Q) X.xe s := by
  have hl : (us ++ []).length = ps.length := by rw [List.append_nil, ← r.length]; exact F.len _ _ _ _ h
  have hbb := hb s us I.kIn hl
  rw [List.append_nil] at hbb
  refine wpAny_call (codeAny_mono (F.run X.A X.stack s H ⟨us, []⟩ us vs Q E hr True.intro I.env0 hbb r h) fun r2 s2 hq => ?_)
  rcases r2 with e | fl
  · exact hx pins σ H s e s2 I hq
  · cases fl with
    | ret u => exact I.after hq
    | _ => exact False.elim hq
def eCall (sem : List D → M D) (fs : Env → M (List D)) : Env → M D := fun env => bnd (fs env) sem
theorem je_call (F : Fn X.prog X.w X.K X.mg X.base k x n sem) (hr : Room k X.A) (hx : Passes (L2.CX X.prog X.w) X E) (ha : JA X E .st (some n) (e :: es) fs) (hg : Gl X x := by rfl) (hdb : (x == ("__debug__" : Str)) = false := by decide)
    (he : starEach (e :: es) X.env = (false, eval e X.env) :: starEach es X.env := by rfl) (hpl : (backTo pos (starEach es X.env)).any (·.1) = false := by rfl) : JE X E .st (.Call (.Name x p) (e :: es) [] pos) (eCall sem fs) := by
  obtain ⟨f, fd, ps, F, hm, hk, hb⟩ := F.ex
  refine ⟨⟨fun pins s σ H Q I ⟨v, g, env, W, R, ER, o, eo, hf, xw, q⟩ => ?_⟩⟩
  refine wpAny_Call_Name_kw (ld_glob I hg hm ?_ hdb)
  refine PySem.W.callWith_K (h₀ := X.base) I.ok.mod.kin hk (thn (ha.pa.run pos pins s σ H (fun vs H1 => spD ⟨X.K, X.mg⟩ n sem vs H1 Q E) I ⟨v, g, env, W, _, _, o, eo, hf, xw, fun us ds g1 H1 W1 h1 m1 o1 w1 l1 => ?_⟩) fun us s1 ⟨vs, H1, I1, r, h1⟩ => ⟨I1.kIn, ?_⟩) he hpl
  · exact ⟨v, g1, W1, ds, R, ER, l1 n rfl, o1, w1, h1, xw.mv m1, q.mv m1⟩
  · exact run_G F hr hb hx I1 r h1
theorem pass_no : Passes (L2.CX X.prog X.w) X E0 := fun _ _ _ _ _ _ _ ⟨_, _, _, _, _, _, _, _, _, _, _, _, h⟩ => h.elim
end
end Y

set_option maxRecDepth 100000
set_option maxHeartbeats 2000000
namespace Y
open PySem PySem.Spec PyProof.Rows L2

/-! ### the errors: one __init__ (self, value) with self.value = value -/
def spI (K : PySem.W.Frag) : Sp := fun vs H Q _ => ∃ (a C : Addr) (y : V), vs = [.ref a, y] ∧ OexC K C ∧ PySem.W.findIn K (.ref C) "value" = some none ∧ H a = some (exo a C none) ∧
  ∀ dx, H dx = none → dx ≠ a → Q .non (upd (upd H dx (exd dx [("value", y)])) a (exo a C (some dx)))
section
variable {P : Program} {w : World} {K : PySem.W.Frag} {mg : Str → Option Value} {base : Heap} {f : Addr} {fd : FuncData} {st : Stmt} {qual : Str}
theorem init_ok {p1 p2 p3 p4 : Pos} (F : Fun K "__init__" qual st f fd) (S : FnScope ["self", "value"] ["self", "value"] (defScope st)) (hb : defBody st = [.Assign [.Attribute (.Name "self" p1) "value" p2] (.Name "value" p3) p4])
    (v1 : Vis (defScope st) "self") (v2 : Vis (defScope st) "value") : FnOk P w K mg base CX0 1 f fd ["self", "value"] (spI K) := by
  refine F.ok S (fun vs H Q E h => ?_) (fun cdv A outer s H vs Q E hr h => ?_)
  · obtain ⟨a, C, y, rfl, _⟩ := h
    rfl
  · obtain ⟨a, C, y, rfl, T, hn, ha, q⟩ := h
    rw [hb]
    exact ⟨_, pss_one (ps_ost (pe_var (i := 0) rfl v1) (pe_var (i := 1) rfl v2) rfl), y, rfl, .ref a, rfl, a, C, rfl, T, hn, .inl ⟨ha, fun dx n ne => q dx n ne⟩⟩
end
/-- an error's class -/
structure Ec (K : PySem.W.Frag) (mg : Str → Option Value) (x : Str) : Prop where
  ex : ∃ (C fI : Addr) (fd : FuncData), mg x = some (.ref C) ∧ OexC K C ∧ PySem.W.findIn K (.ref C) "value" = some none ∧ PySem.W.findIn K (.ref C) "__init__" = some (some (.ref fI)) ∧ PySem.W.typeIn K (.ref fI) = some (.type "function") ∧
    Binds K fd ["self", "value"] [] ∧ ∀ (P : Program) (w : World) (base : Heap), FnOk P w K mg base CX0 1 fI fd ["self", "value"] (spI K)
def sRaise (x : Str) (f : Env → M D) : SM := fun env W K => f env W (fun d W' => K.ex ⟨x, [("value", d)]⟩ W') K.ex
section
variable {X : Cx} {E : XK} {x : Str} {e : Expr} {f : Env → M D} {p p2 pos : Pos} {k : Nat}
theorem raised_ok {c : Ct} {v : Vo} {g : Gd} {H : Hp} {W : List MO} {C dx : Addr} {fs : List (Str × V)} {ds : List (Str × D)} {x : Str} {ER : Exn → List MO → Prop} (o : Ok c v g H W) (xw : XW c v g H E ER) (hm : c.mg x = some (.ref C)) (hd : H dx = none) (r : RepF c v.rw g fs ds) (h : ER ⟨x, ds⟩ W) : E (.ref C) (some dx) (upd H dx (.xd fs)) := by
  obtain ⟨o1, m1⟩ := o.alloc hd (.xd fs)
  exact xw ⟨x, ds⟩ W g _ _ _ h m1 o1 ⟨C, dx, fs, hm, rfl, rfl, upd_same, r⟩
theorem js_raise (G : Gx X E) (hr : Room 2 X.A) (c : Ec X.K X.mg x) (he : JE X E .st e f) (hg : Gl X x := by rfl) (hdb : (x == ("__debug__" : Str)) = false := by decide) (hs : starEach [e] X.env = (false, eval e X.env) :: starEach [] X.env := by rfl) (hpl : (backTo p2 (starEach [] X.env)).any (·.1) = false := by rfl) :
    JS X E (.Raise (some (.Call (.Name x p) [e] [] p2)) none pos) (sRaise x f) := by
  obtain ⟨C, fI, fd, hm, T, hn, iC, tI, hb, F⟩ := c.ex
  refine ⟨(L2.ps_raise G.calm G.tk (pmk_oex T iC tI (F X.prog X.w X.base) hr hb .nil pass0 hg hm (pa_cons he.pe pa_nil hs) hdb hs hpl)).imp fun Dn σ H ⟨v, g0, H0, g, env, W, K, a, hs, xw, n, r, b, ct⟩ => ?_⟩
  refine ⟨v, g, env, W, _, _, a.ok, a.eo, hs, xw.mv a.gr, fun u d g1 H1 W1 h1 m1 o1 w1 => ⟨by show 1 ≤ 1000; decide, fun e ne => ⟨e, C, u, rfl, T, hn, upd_same, fun dx nd ne2 => ⟨rfl, dx, [("value", u)], upd_same, ?_, ?_, ?_⟩⟩⟩⟩
  · rw [upd_ne ne2, upd_same]
  · rw [upd_ne ne2] at nd
    exact nd
  · have nd1 : H1 dx = none := by
      rw [upd_ne ne2] at nd
      exact nd
    have eq : upd (del (upd (upd (upd H1 e (exo e C none)) dx (exd dx [("value", u)])) e (exo e C (some dx))) e) dx (.xd [("value", u)]) = upd H1 dx (.xd [("value", u)]) := by
      funext q
      by_cases z : q = dx
      · rw [z, upd_same, upd_same]
      · rw [upd_ne z, upd_ne z]
        by_cases z2 : q = e
        · rw [z2, del_same, ne]
        · rw [del_ne z2, upd_ne z2, upd_ne z, upd_ne z2]
    rw [eq]
    have w1 : Rep (Cx.ct X) v.rw g1 u d := w1
    exact raised_ok o1 (xw.mv (a.gr.trans m1)) hm nd1 (.cons w1 .nil) h1
end

/-! ### try: several clauses 'except X as e' -/
abbrev Cl := Value × (Addr → Value → Option Addr → TS)
def wEach (K : PySem.W.Frag) (i : Nat) (Wout : WX) (Dn : Ends) : List Cl → WX
  | [] => Wout
  | (c, ts) :: r => wAs K c i ts (wEach K i Wout Dn r) Dn
inductive HdA (X : Cx) (n : Str) : List ExceptHandler → List Cl → Prop
  | nil : HdA X n [] []
  | cons {x : Str} {c : Value} {ts : Addr → Value → Option Addr → TS} {b : Stmt} {su : List Stmt} {np pp : Pos} {hds : List ExceptHandler} {l : List Cl} (hc : Names X x c)
      (hsu : ∀ (a : Addr) (oe : Obj) (cls : Value) (d : Option Addr) (pn : List (Addr × Obj)), Zc cls d oe → (∃ vs, oe.data = .fields vs) → PSs (X.suite a ((a, oe) :: pn)) (b :: su) (ts a cls d)) (r : HdA X n hds l) :
      HdA X n (.ExceptHandler (some (.Name x np)) (some n) (b :: su) pp :: hds) ((c, ts) :: l)
section
variable {X : Cx} {body : List Stmt} {h0 : ExceptHandler} {hds : List ExceptHandler} {l : List Cl} {n : Str} {i : Nat} {pos : Pos} {tb : WX → TS} {Wout : WX}
theorem ps_each (hs : X.stack = X.env :: X.outer) (hf : X.env.frame = some X.env.locals) (hN : X.N.Nodup) (hi : X.N[i]? = some n) (hln : X.env.kindOf n = some .local) (tk : Takes X Wout)
    (hb : ∀ (W : WX) (pn : List (Addr × Obj)) (xe : Value → Shared → Prop), Takes (X.tr pn xe) W → PassesOwn (model X.prog X.w) X.A X.env xe → PSs (X.tr pn xe) body (tb W))
    (hh : HdA X n (h0 :: hds) l) : PS X (.Try body (h0 :: hds) [] [] pos) (fun Dn σ H => tb (wEach X.K i Wout Dn l) Dn σ H) := by
  refine ⟨fun pins s σ H Dn I h => ?_⟩
  have ok := I.ok
  have hfr : X.A.frames = some (X.env :: X.outer) := ok.frames.trans (by rw [hs])
  refine wpAny_Try_except (wpAny_mono ((hb (wEach X.K i Wout Dn l) (X.pn ++ pins) (fun e s1 => wpAny (model X.prog X.w) X.A (noteFrame e X.env) (fun _ s2 => wpAny (model X.prog X.w) X.A (setFlight e none) (fun _ s3 =>
    wpAny (model X.prog X.w) X.A (handleBy e X.env (h0 :: hds)) (SP X pins Dn) X.xe s3) X.xe s2) X.xe s1) (fun u s2 xx => ?_) PassesOwn.looking).run [] s σ H Dn (I.toTry _) h) (fun fl s1 hsp => ?_) fun e s1 he => he)
  · obtain ⟨a, B, sI, pins2, σ2, H2, cls, d, rfl, J2, nb, up, sky, na, os, ag, wx⟩ := xx
    have J : L2.Inv X pins σ2 H2 sI := J2.ofTry ok
    rw [show (X.tr (X.pn ++ pins) _).stack = X.env :: X.outer from hs] at sky
    show wpAny (model X.prog X.w) X.A (noteFrame (.ref a) X.env) _ _ _
    refine Sky.land Zc.steady hfr hf sky fun h3 fl3 up3 => ?_
    have J3 : L2.Inv X pins σ2 H2 { s2 with heap := h3 } := J.landed nb fl3.1 (up.trans up3) os ag
    obtain ⟨oe3, vs3, he3, hz3, hd3⟩ := fl3.there
    have nfr : a ∉ frs (X.env :: X.outer) := fun hm => by
      obtain ⟨_, o2, e2, hnf⟩ := fl3.2.2.1.mem hm
      rw [he3] at e2
      cases e2
      exact hnf _ hd3
    have nL : a ≠ X.env.locals := fun z => nfr (List.mem_filterMap.mpr ⟨X.env, List.mem_cons_self, by rw [hf, z]⟩)
    have nF : a ∉ X.fs := fun hm => by
      obtain ⟨e, he, q⟩ := List.mem_filterMap.mp hm
      exact nfr (List.mem_filterMap.mpr ⟨e, List.mem_cons_of_mem _ he, q⟩)
    have S3 := J3.suite he3 hd3 na nL nF
    have go : ∀ {hs2 : List ExceptHandler} {l2 : List Cl}, HdA X n hs2 l2 → wEach X.K i Wout Dn l2 cls d σ2 H2 → wpAny (model X.prog X.w) X.A (handleBy (.ref a) X.env hs2) (SP X pins Dn) X.xe { s2 with heap := h3 } := by
      intro hs2 l2 hk
      induction hk with
      | nil =>
        intro wo
        refine wpAny_handleBy_nil ?_
        obtain ⟨_, _, _, oe, vs, T, oT, ts2, he, hz, hd, h1, hr⟩ := id fl3
        have fin : wpAny (model X.prog X.w) X.A (setFlight (.ref a) X.env.frame) (fun _ s4 => wpAny (model X.prog X.w) X.A (throw (.ref a) : Sem Flow) (SP X pins Dn) X.xe s4) X.xe { s2 with heap := h3 } := by
          rw [hf]
          refine HandSPX.setFlight_upZ fl3 fun h4 hh4 up4 => wpAny_throw (tk _ _ ?_)
          exact ⟨a, B, sI, pins, σ2, H2, cls, d, rfl, J, nb, (up.trans up3).trans up4, .inr (.inr (by rw [hs]; exact hh4)), na, os, ag, wo⟩
        unfold PySem.passOn
        refine wpAny_bind (wpAny_field he hd h1 ?_)
        rw [if_neg (show ¬ ((Value.ref T == Value.none) = true) from by simp)]
        first
          | exact wpAny_bind (wpAny_pure (wpAny_bind fin))
          | exact wpAny_bind fin
      | @cons x c ts b0 su np pp hds2 l2 hc hsu r ih =>
        intro ⟨b, hb1, hyes, hno⟩
        have LT : PySem.W.Looks (model X.prog X.w) h3 (typeOf (.ref a)) cls := fun A Q E s k q => wpAny_typeOf_ref (k _ _ he3) (by rw [hz3.1]; exact q)
        have LM := PySem.W.exm_one (M := model X.prog X.w) (J3.kIn) LT hb1
        have test : ∀ {Q E : Value → Shared → Prop}, Q c { s2 with heap := h3 } → wpAny (model X.prog X.w) (X.A.mark (some (.ref a))) (eval (.Name x np) X.env) Q E { s2 with heap := h3 } := fun {Q E} q => by
          obtain ⟨hg, hdbg, hm | ⟨hm, hv, hnn⟩⟩ := hc
          · exact ld_glob (X := X.suite a ((a, oe3) :: (X.pn ++ pins))) S3 hg hm q hdbg
          · exact ld_blt (X := X.suite a ((a, oe3) :: (X.pn ++ pins))) S3 hg hm hv q hnn hdbg
        refine wpAny_handleBy_cons (codeAny_handlers_test (test (LM.here ?_))) (by intro q; cases q)
        cases b with
        | false =>
          show wpAny _ X.A (handleBy (.ref a) X.env hds2) _ _ _
          exact ih (hno rfl)
        | true =>
          refine codeAny_handlers_suite_as (HandSPX.lands_againZ fl3 fun h4 fl4 up4 => ?_)
          have J4 : L2.Inv X pins σ2 H2 { s2 with heap := h4 } := J.landed nb fl4.1 ((up.trans up3).trans up4) os ag
          obtain ⟨oe4, vs4, he4, hz4, hd4⟩ := fl4.there
          refine store_ok (X := X.suite a ((a, oe4) :: (X.pn ++ pins))) (v := .ref a) (J4.suite he4 hd4 na nL nF) hN hi (.inl hln) rfl (fun s5 S5 => ?_) (.inr hln)
          refine wpAny_mono ((hsu a oe4 cls d (X.pn ++ pins) hz4 ⟨_, hd4⟩).run [] s5 _ H2 _ S5 (hyes rfl a na)) (fun fl s6 hsp => ?_) (fun _ _ z => False.elim z)
          have gone : ∀ {σ6 : L2.St} {H6 : Hp} {Q : Shared → Prop}, L2.Inv (X.suite a ((a, oe4) :: (X.pn ++ pins))) [] σ6 H6 s6 → (∀ s7, L2.Inv X pins (σ6.set i none) H6 s7 → Q s7) →
              wpAny (model X.prog X.w) X.A (do bindName X.env n .none; unbindBehindTheSuite X.env n pp) (fun _ s7 => Q s7) X.xe s6 := fun S6 hq => gone_ok (S6.unsuite ok) hN hi hln hq
          cases fl with
          | ret u =>
            obtain ⟨v6, σ6, H6, S6, r6, q6⟩ := hsp
            exact gone S6 fun s7 J7 => ⟨_, _, _, J7, r6, q6⟩
          | _ =>
            obtain ⟨σ6, H6, S6, q6⟩ := hsp
            exact gone S6 fun s7 J7 => ⟨_, _, J7, q6⟩
    exact go hh wx
  · cases fl with
    | ret u =>
      obtain ⟨v, σ2, H2, J2, r, q⟩ := hsp
      exact ⟨v, σ2, H2, J2.ofTry ok, r, q⟩
    | next =>
      obtain ⟨σ2, H2, J2, q⟩ := hsp
      exact wpAny_execs_nil ⟨σ2, H2, J2.ofTry ok, q⟩
    | _ =>
      obtain ⟨σ2, H2, J2, q⟩ := hsp
      exact ⟨σ2, H2, J2.ofTry ok, q⟩
end
end Y

set_option maxRecDepth 100000
set_option maxHeartbeats 2000000
namespace Y
open PySem PySem.Spec PyProof.Rows L2

/-! ### the end of a law whose def is told where nothing is being shown -/
/-- nothing is being shown by repr -/
def Quiet (A : Around) : Prop := A.guards = some []
abbrev tabO : Obj := { cls := .none, data := .fields #[] }
/-- what is tracked as the law begins: the script (unless the top wrote it), the tables -/
def hp0 (K : PySem.W.Frag) (us : List Value) (ns : List Int) (a : Addr) (ts : List Addr) : Hp := fun b =>
  if b ∈ ts then some (.tbl #[]) else if b = a ∧ (K.lookup a).isNone = true then some (.frz { cls := .type "list", data := .seq us.toArray } (.lst (ns.map V.int))) else none
section
variable {P : Program} {w : World} {K : PySem.W.Frag} {mg mb : Str → Option Value} {k : Nat} {fa a : Addr} {cs : List (Addr × Addr)} {fd : FuncData} {x : Str} {sp : Sp} {z : Shared} {us : List Value} {ns : List Int}
theorem hp0_t {ts : List Addr} {b : Addr} (h : b ∈ ts) : hp0 K us ns a ts b = some (.tbl #[]) := if_pos h
theorem hp0_off {ts : List Addr} {b : Addr} (h : b ∉ ts) (h2 : b = a → (K.lookup a).isSome = true) : hp0 K us ns a ts b = none := by
  unfold hp0
  rw [if_neg h, if_neg fun q => by have := h2 q.1; rw [Option.isNone_iff_eq_none] at q; rw [q.2] at this; cases this]
theorem hp0_some {ts : List Addr} {b : Addr} {u : HO} (h : hp0 K us ns a ts b = some u) : (b ∈ ts ∧ u = .tbl #[]) ∨ (b = a ∧ b ∉ ts ∧ K.lookup a = none ∧ u = .frz { cls := .type "list", data := .seq us.toArray } (.lst (ns.map V.int))) := by
  unfold hp0 at h
  split at h
  · rename_i q
    exact .inl ⟨q, (Option.some.inj h).symm⟩
  · rename_i q
    split at h
    · rename_i q2
      exact .inr ⟨q2.1, q, Option.isNone_iff_eq_none.mp q2.2, (Option.some.inj h).symm⟩
    · cases h
theorem law_end (KX : K.In z.heap) (gn : z.heap.Ns mainGlobals mg) (bn : z.heap.Ns builtinsNs mb) (bb : ∀ y : Str, y ≠ "__name__" → mb y = bootBuiltins y) (lim : z.heap.NoLimit) (gs : z.gens = #[])
    (tabs : ∀ p ∈ cs, z.heap.get? p.2 = some tabO) (off : ∀ p ∈ cs, K.lookup p.2 = none) (hds : ∀ p ∈ cs, PySem.W.CodeHd z.heap p.1 p.2)
    (bmod : ∃ (bm : Addr) (ob : Obj), mg "__builtins__" = some (.ref bm) ∧ bm ≠ builtinsNs ∧ z.heap.get? bm = some ob ∧ ob.cls = .type "module" ∧ ob.dict = some builtinsNs ∧ ob.data = .plain)
    (here : z.heap.get? a = some { cls := .type "list", data := .seq us.toArray }) (hi : IntsAre us ns) (hl : ns.length ≤ sizeLine) (hr : Room k callerA)
    (F : ∀ base : Heap, K.In base → base.Ns mainGlobals mg → (∀ p ∈ cs, LamX.TabB base mg p.1 p.2) → FGg Quiet P w K mg base k fa fd [x] sp) (hbind : ∀ (s : Shared) (u : Value), BindsTo s fd ⟨[u], []⟩ [(x, u)])
    (hsp : ∀ H : Hp, (∀ p ∈ cs, H p.2 = some (.tbl #[])) → ((∃ o, H a = some (.frz o (.lst (ns.map V.int)))) ∨ ∀ H', SqL K H' a (ns.map V.int)) → sp [.ref a] H (fun v _ => v = .bl true) fun _ _ _ => False) :
    codeAny (model P w) callerA (.call (.ref fa) ⟨[.ref a], []⟩) (fun r s2 => r = .ok (.ret (.bool true)) ∧ OldK z.heap s2.heap ∧ s2.os = z.os ∧ AllBare s2.gens) z := by
  have rel := vals_ints hi
  have lenU := hi.length
  have tab : ∀ b : Addr, b ∈ cs.map (·.2) → z.heap.get? b = some tabO := fun b hb => by
    obtain ⟨p, hp, e⟩ := List.mem_map.mp hb
    rw [← e]
    exact tabs p hp
  have inT : ∀ p ∈ cs, p.2 ∈ cs.map (·.2) := fun p hp => List.mem_map.mpr ⟨p, hp, rfl⟩
  have aT : a ∉ cs.map (·.2) := fun q => by
    have e := (tab a q).symm.trans here
    cases e
  -- the ground: nothing that is tracked
  let H := hp0 K us ns a (cs.map (·.2))
  have offH : ∀ {b : Addr} {o : Obj}, z.heap.get? b = some o → (∀ vs n, o.data ≠ .seq vs n) → o.data ≠ .fields #[] → H b = none := fun {b o} e h1 h2 => by
    refine hp0_off (fun q => ?_) fun q => ?_
    · have := (tab b q).symm.trans e
      cases this
      exact h2 rfl
    · rw [q, here] at e
      cases e
      exact (h1 _ _ rfl).elim
  have stays : ∀ {b : Addr} {o : Obj}, z.heap.get? b = some o → (∀ vs n, o.data ≠ .seq vs n) → o.data ≠ .fields #[] → (hidT z.heap H).get? b = some o := fun e h1 h2 => hidT_get e (offH e h1 h2)
  have dict : ∀ {b : Addr} {o : Obj} {es : Array DictEntry} {ep : Nat}, z.heap.get? b = some o → o.data = .dict es ep → (hidT z.heap H).get? b = some o := fun {b o es ep} e d =>
    stays e (fun vs n q => by rw [d] at q; cases q) (fun q => by rw [d] at q; cases q)
  have nsH : ∀ {b : Addr} {m : Str → Option Value}, z.heap.Ns b m → (hidT z.heap H).Ns b m := fun ⟨o, es, ep, e, d, r⟩ => ⟨o, es, ep, dict e d, d, r⟩
  have kH : K.In (hidT z.heap H) := fun b o e => hidT_get (KX b o e) (hp0_off (fun q => by
    obtain ⟨p, hp, ep⟩ := List.mem_map.mp q
    rw [← ep, off p hp] at e
    cases e) fun q => by rw [← q, e]; rfl)
  have modH : L2.Mod K mg (hidT z.heap H) := ⟨kH, nsH gn, ⟨mb, nsH bn, bb⟩, let ⟨mc, h1, h2⟩ := lim; ⟨mc, nsH h1, h2⟩⟩
  have tabH : ∀ p ∈ cs, LamX.TabB (hidT z.heap H) mg p.1 p.2 := fun p hp => by
    refine ⟨?_, ?_, fun q => ?_⟩
    · obtain ⟨o, vs, file, tf, flags, tg, inF, text, tt, e1, r1, r2, r3, r4, r5, r6, r7, r8, hne⟩ := hds p hp
      refine ⟨o, vs, file, tf, flags, tg, inF, text, tt, stays e1 (fun vs n q => ?_) (fun q => ?_), r1, r2, r3, r4, r5, r6, r7, r8, hne⟩
      · rw [r2] at q
        cases q
      · rw [r2] at q
        cases q
        simp at r3
    · obtain ⟨bm, ob, b1, b2, b3, b4, b5, b6⟩ := bmod
      have nG : bm ≠ mainGlobals := fun q => by
        obtain ⟨o, es, ep, e, d, _⟩ := gn
        rw [← q, b3] at e
        cases e
        rw [b6] at d
        cases d
      have nP : bm ≠ p.2 := fun q => by
        have e := tabs p hp
        rw [← q, b3] at e
        cases e
        cases b6
      exact ⟨bm, ob, b1, b2, nG, nP, stays b3 (fun vs n q => by rw [b6] at q; cases q) (fun q => by rw [b6] at q; cases q), b4, b5, b6⟩
    · obtain ⟨o, es, ep, e, d, _⟩ := gn
      rw [q, tabs p hp] at e
      cases e
      cases d
  have hok : HOk P w H z.heap := fun b u q => by
    rcases hp0_some q with ⟨q1, rfl⟩ | ⟨rfl, _, _, rfl⟩
    · exact tab b q1
    · exact ⟨here, by rw [List.length_map]; exact hl, us, _, rel, here⟩
  have seqH : (∃ o, H a = some (.frz o (.lst (ns.map V.int)))) ∨ ∀ H', SqL K H' a (ns.map V.int) := by
    cases e : K.lookup a with
    | none => exact .inl ⟨_, by show hp0 K us ns a (cs.map (·.2)) a = _; unfold hp0; rw [if_neg aT, if_pos ⟨rfl, by rw [e]; rfl⟩]⟩
    | some o =>
      have e2 := (KX a o e).symm.trans here
      cases e2
      exact .inr fun H' => .inr ⟨_, us.toArray, _, e, rfl, rfl, rfl, by rw [List.size_toArray, lenU]; exact hl, by simpa using rel⟩
  have e0 : Env0 P w K mg (hidT z.heap H) callerA [] z H := ⟨rfl, modH, fun b o e => of_hidT e, Nat.le_of_eq (hidT_size _ _), trivial, fun b hb => absurd (show b ∈ ([] : List Addr) from hb) (by simp), hok, .of_eq gs⟩
  refine codeAny_mono ((F _ kH (nsH gn) tabH).run callerA [] z H ⟨[.ref a], []⟩ [.ref a] [.ref a] _ _ hr rfl e0 (hbind z (.ref a)) (.cons rfl .nil) (hsp H (fun p hp => hp0_t (inT p hp)) seqH)) fun r s2 h => ?_
  cases r with
  | error e =>
    obtain ⟨_, _, _, _, _, _, _, _, _, _, _, _, q⟩ := h
    exact q.elim
  | ok fl =>
    cases fl with
    | ret u =>
      obtain ⟨v, H2, os, bare, un, hok2, r2, q⟩ := h
      have q : v = .bl true := q
      subst q
      obtain rfl : u = Value.bool true := r2
      have kept : ∀ b o, b ∉ cs.map (·.2) → z.heap.get? b = some o → s2.heap.get? b = some o := fun b o nb e => by
        cases q : H b with
        | none => exact un.keep b o e q (by intro y; exact absurd (show b ∈ ([] : List Addr) from y) (by simp)) (by simp)
        | some u =>
          rcases hp0_some q with ⟨q1, _⟩ | ⟨_, _, _, rfl⟩
          · exact absurd q1 nb
          · obtain ⟨e1, _⟩ := hok b _ q
            obtain ⟨e2, _⟩ := hok2 b _ (un.frzs b _ _ q)
            rw [e] at e1
            cases e1
            exact e2
      have more : ∀ p ∈ cs, ∃ m : Array Value, s2.heap.get? p.2 = some { cls := .none, data := .fields m } := fun p hp => by
        obtain ⟨m, y⟩ := un.tbls p.2 #[] (hp0_t (inT p hp))
        exact ⟨_, hok2 p.2 _ y⟩
      refine ⟨rfl, ⟨fun b o e => ?_, fun b o e => ?_⟩, os, bare⟩
      · by_cases hb : b ∈ cs.map (·.2)
        · obtain ⟨p, hp, ep⟩ := List.mem_map.mp hb
          obtain ⟨m, hm⟩ := more p hp
          rw [← ep] at e ⊢
          rw [tabs p hp] at e
          cases e
          exact .inr (.inl ⟨((hds p hp).tab (tabs p hp)).isCodeTable, rfl, #[], m, rfl, by rw [Array.empty_append]; exact hm⟩)
        · exact .inl (kept b o hb e)
      · by_cases hb : b ∈ cs.map (·.2)
        · obtain ⟨p, hp, ep⟩ := List.mem_map.mp hb
          obtain ⟨m, hm⟩ := more p hp
          rw [← ep]
          exact ⟨_, hm⟩
        · exact ⟨o, kept b o hb e⟩
    | next => exact False.elim h
    | brk => exact False.elim h
    | cont => exact False.elim h
end
/-- what is known of the law's promise behind the top -/
def LawG (l : PySem.W.OpenLaw) (w : World) (K : PySem.W.Frag) (k n : Nat) (x : Str) (mg : Str → Option Value) (fa : Addr) (h : Heap) : Prop :=
  ∃ (fd : FuncData) (cs : List (Addr × Addr)) (sp : Sp), (∀ p ∈ cs, h.get? p.2 = some tabO) ∧ (∀ p ∈ cs, K.lookup p.2 = none) ∧ (∀ p ∈ cs, PySem.W.CodeHd h p.1 p.2) ∧ (∀ (s : Shared) (u : Value), BindsTo s fd ⟨[u], []⟩ [(x, u)]) ∧
    (∀ (H : Hp) (a : Addr) (ns : List Int), ns.length ≤ n → (∀ p ∈ cs, H p.2 = some (.tbl #[])) → ((∃ o, H a = some (.frz o (.lst (ns.map V.int)))) ∨ ∀ H', SqL K H' a (ns.map V.int)) → sp [.ref a] H (fun v _ => v = .bl true) fun _ _ _ => False) ∧
    ∀ base : Heap, K.In base → base.Ns mainGlobals mg → (∀ p ∈ cs, LamX.TabB base mg p.1 p.2) → FGg Quiet l.prog w K mg base k fa fd [x] sp
theorem walk_law {l : PySem.W.OpenLaw} {n k : Nat} {q : Program} {loose : List Str} {XP : (Str → Option Value) → Heap → Prop} {YP : World → Heap → Prop} {d : DefRec} {x : Str}
    (hn : l.most = some n) (hn2 : n ≤ sizeLine) (hdf : d.params.defaults = []) (hr : Room k callerA)
    (F : ∀ (w : World) (mg : Str → Option Value) (fa : Addr) (h : Heap), YP w h → h.Ns mainGlobals mg → mg d.name = some (.ref fa) → ∃ K : PySem.W.Frag, K.In h ∧ LawG l w K k n x mg fa h) :
    PySem.W.WalkO q loose XP YP l.row.toRowW d [] (fun f vs => PySem.call f vs) := by
  refine Att.attach_callB hn hdf fun w s0 s1 mg mb fa o pm cd doc a us ns G Y ho hd hcd hmg hobj hints hlen hbits hg => ?_
  obtain ⟨K, KX, fd, cs, sp, hT, nT, C, hb, hsp, hF⟩ := F w mg fa _ Y G.T.g hmg
  exact law_end KX G.T.g G.T.b G.T.builtins G.T.nolimit hg hT nT C G.T.bmain hobj hints (Nat.le_trans hlen hn2) hr hF hb fun H hH hS => hsp H a ns hlen hH hS
end Y

set_option maxRecDepth 100000
set_option maxHeartbeats 2000000
namespace Y
open PySem PySem.Spec PyProof.Rows L2

/-! ### lambdas are made: only tables change -/
theorem Ok.ext {c : Ct} {v : Vo} {g : Gd} {H H1 : Hp} {W : List MO} (o : Ok c v g H W) (e : LamX.ExtN H H1) (t : LamX.Tabs v.T H1) : Ok c v g H1 W ∧ Gr v g H g H1 := by
  have nt : ∀ {r : Addr} {a : Addr} {x : MO}, RepM c r g H a x → RepM c r g H1 a x := fun {r a x} h => by
    cases x with
    | lst ds =>
      obtain ⟨vs, z, q, k⟩ := h
      exact ⟨vs, z, e _ _ q (fun _ w => by cases w), k⟩
    | dct ds =>
      obtain ⟨vs, z, q, k⟩ := h
      exact ⟨vs, z, e _ _ q (fun _ w => by cases w), k⟩
    | ins y ds =>
      obtain ⟨C, dx, vs, z, q, k⟩ := h
      exact ⟨C, dx, vs, z, e _ _ q (fun _ w => by cases w), k⟩
  refine ⟨⟨fun p u q => e p u (o.bh p u q) fun ps w => o.bt p ps (by rw [q, w]), o.bv, o.ba, v.tx H H1 o.ri e t, o.len, o.nd, fun i a x ea ex => nt (o.wo i a x ea ex), o.vk, o.bt⟩,
    GLe.refl g, fun p u q n _ _ => e p u q n, fun _ q _ => q, fun _ q => .inl q, fun p ⟨u, q, n⟩ => ⟨u, e p u q n, n⟩⟩

/-! ### what is volatile in a law: the row of draws, the table of its lambdas -/
abbrev rowO (a : Addr) (i j k : Int) : HO := .lst [.ref a, .int i, .int j, .int k]
def ScrOk (K : PySem.W.Frag) (ns : List Int) (a : Addr) (H : Hp) : Prop := (∃ o, H a = some (.frz o (.lst (ns.map V.int)))) ∨ ∀ H', SqL K H' a (ns.map V.int)
theorem ScrOk.seq {K : PySem.W.Frag} {ns : List Int} {a : Addr} {H : Hp} (h : ScrOk K ns a H) : SqL K H a (ns.map V.int) := h.elim (fun q => .inl (.inr q)) fun q => q H
structure RowI (K : PySem.W.Frag) (T : List (Addr × Str)) (ns : List Int) (a p : Addr) (H : Hp) : Prop where
  row : ∃ i j k : Int, 0 ≤ i ∧ H p = some (rowO a i j k)
  scr : ScrOk K ns a H
  tab : LamX.Tabs T H
theorem RowI.off {K : PySem.W.Frag} {T : List (Addr × Str)} {ns : List Int} {a p : Addr} {H : Hp} (h : RowI K T ns a p H) : ∀ t ∈ T, t.1 ≠ p := fun t ht q => by
  obtain ⟨i, j, k, _, e⟩ := h.row
  obtain ⟨ps, e2, _⟩ := h.tab t ht
  rw [q, e] at e2
  cases e2
theorem tabs_upd {T : List (Addr × Str)} {H : Hp} {p : Addr} {o : HO} (h : LamX.Tabs T H) (off : ∀ t ∈ T, t.1 ≠ p) (hp : ∀ q, H p ≠ some (LamX.CodeO p q)) : LamX.Tabs T (upd H p o) := fun t ht => by
  obtain ⟨ps, e1, e2, e3⟩ := h t ht
  refine ⟨ps, by rw [upd_ne (off t ht)]; exact e1, e2, fun pos cv hc => ?_⟩
  obtain ⟨c, e4, e5⟩ := e3 pos cv hc
  exact ⟨c, e4, by rw [upd_ne fun q => hp t.2 (by rw [← q]; exact e5)]; exact e5⟩
theorem codeO_shape {c : Addr} {q : Str} {o : HO} (h : o = LamX.CodeO c q) (n : ∀ f, o ≠ .ext f) : False := n _ h
def voL (K : PySem.W.Frag) (T : List (Addr × Str)) (ns : List Int) (a p : Addr) : Vo where
  K := K
  T := T
  vol q := q = p ∨ ∃ t ∈ T, q = t.1
  rw := p
  RI := RowI K T ns a p
  rv := .inl rfl
  ne H q h hq := by
    rcases hq with rfl | ⟨t, ht, rfl⟩
    · obtain ⟨i, j, k, _, e⟩ := h.row
      rw [e]; simp
    · obtain ⟨ps, e, _⟩ := h.tab t ht
      rw [e]; simp
  st H H' h sm fx := by
    refine ⟨?_, ?_, fun t ht => ?_⟩
    · obtain ⟨i, j, k, hi, e⟩ := h.row
      exact ⟨i, j, k, hi, by rw [sm p (.inl rfl)]; exact e⟩
    · rcases h.scr with ⟨o, q⟩ | q
      · exact .inl ⟨o, fx a _ True.intro q⟩
      · exact .inr q
    · obtain ⟨ps, e1, e2, e3⟩ := h.tab t ht
      refine ⟨ps, by rw [sm _ (.inr ⟨t, ht, rfl⟩)]; exact e1, e2, fun pos cv hc => ?_⟩
      obtain ⟨c, e4, e5⟩ := e3 pos cv hc
      exact ⟨c, e4, fx c _ True.intro e5⟩
  tk H h := by
    obtain ⟨i, j, k, hi, e⟩ := h.row
    refine ⟨a, ns, i, j, k, e, hi, h.scr.seq, fun i' j' k' hi' => ⟨⟨i', j', k', hi', upd_same⟩, ?_, tabs_upd h.tab h.off fun q z => ?_⟩⟩
    · rcases h.scr with ⟨o, q⟩ | q
      · exact .inl ⟨o, by rw [upd_ne fun y => by rw [y, e] at q; cases q]; exact q⟩
      · exact .inr q
    · rw [e] at z
      exact codeO_shape (Option.some.inj z) (fun f w => by cases w)
  tb H h := h.tab
  tx H H1 h e t := by
    refine ⟨?_, ?_, t⟩
    · obtain ⟨i, j, k, hi, q⟩ := h.row
      exact ⟨i, j, k, hi, e p _ q fun ps w => by cases w⟩
    · rcases h.scr with ⟨o, q⟩ | q
      · exact .inl ⟨o, e a _ q fun ps w => by cases w⟩
      · exact .inr q

/-! ### a draw -/
def sTaken : List D → M D
  | [.row, .int m] => ask (0 < m ∧ m < 1073741824) fun W R _ => ∀ n, 0 ≤ n → n < m → R (.int n) W
  | _ => fail
abbrev nTaken : List Str := ["row", "many", "found", "cell"]
/-- the row of draws changes -/
theorem Ok.drawn {c : Ct} {v : Vo} {g : Gd} {H : Hp} {W : List MO} (o : Ok c v g H W) {a : Addr} {i j k i' j' k' : Int} (e : H v.rw = some (rowO a i j k)) (ri : v.RI (upd H v.rw (rowO a i' j' k'))) : Ok c v g (upd H v.rw (rowO a i' j' k')) W ∧ Gr v g H g (upd H v.rw (rowO a i' j' k')) := by
  have hB : g.B v.rw = none := o.bv _ v.rv
  have ha : v.rw ∉ g.al := fun q => (o.ba _ q).2 v.rv
  refine ⟨⟨fun q u x => ?_, o.bv, o.ba, ri, o.len, o.nd, fun i2 a2 x ea ex => (o.wo i2 a2 x ea ex).mono (GLe.refl g) fun u z => ?_, o.vk, o.bt⟩,
    GLe.refl g, fun q u x _ nv _ => ?_, fun _ x _ => x, fun _ x => .inl x, fun q x => old_upd (fun _ w => by cases w) x⟩
  · rw [upd_ne fun z => by rw [z, hB] at x; cases x]
    exact o.bh q u x
  · rw [upd_ne fun y => ha (by rw [← y]; exact List.mem_of_getElem? ea)]
    exact z
  · rw [upd_ne fun z => nv (by rw [z]; exact v.rv)]
    exact x
section
variable {P : Program} {w : World} {K : PySem.W.Frag} {mg : Str → Option Value} {base : Heap} {f : Addr} {fd : FuncData} {st : Stmt} {x qual : Str}
theorem rep2 {c : Ct} {r : Addr} {g : Gd} {us : List V} {d e : D} (h : RepAll c r g us [d, e]) : ∃ u w, us = [u, w] ∧ Rep c r g u d ∧ Rep c r g w e := by
  cases h with
  | cons h t =>
    cases t with
    | cons h2 t2 =>
      cases t2
      exact ⟨_, _, rfl, h, h2⟩
abbrev tkI1 : List V → Hp → VK → Prop := fun xs H Q => (∃ i, xs = [V.int i] ∧ Q (V.int i) H) ∨ ∃ k, xs = [V.bl k] ∧ Q (V.int (if k = true then 1 else 0)) H
abbrev tkLen (K : PySem.W.Frag) : List V → Hp → VK → Prop := fun xs H Q => ∃ x n, xs = [x] ∧ LenV K x H n ∧ Q (V.int n) H
abbrev tkAdd : R2 := rI0 fun i j => .int (i + j)
abbrev tkSub : R2 := rI0 fun i j => .int (i - j)
abbrev tkMul : R2 := rI CMul fun i j => .int (i * j)
abbrev tkMod : R2 := rI (fun _ j => 0 < j) fun i j => .int (i % j)
abbrev tkDiv : R2 := rI CDiv fun i j => .int (i / j)
abbrev tkPow : R2 := rI CPow fun i j => .int (i ^ j.toNat)
abbrev tkGt : R2 := rI0 fun i j => .bl (decide (j < i))
abbrev tkGe : R2 := rI0 fun i j => .bl (decide (j ≤ i))
/-- what the body of _law_taken reads as -/
def tTaken (K : PySem.W.Frag) : TS := (tSeq (tIfS (tTest (tOp tkGt (tOp (rIxL K) (tVar 0) (tC (V.int 3))) (tC (V.int 0)))) (tSeq (tAsg (tOp tkMod (tCB tkI1 (tCons (tOp (rIxL K) (tVar 0) (tC (V.int 3))) tNil)) (tVar 1)) (gName 2)) (tSeq (tAsg (tOp tkDiv (tOp (rIxL K) (tVar 0) (tC (V.int 3))) (tVar 1)) (gSub (tVar 0) (tC (V.int 3)) rSetL)) (tRet (tVar 2)))) tNext) (tSeq (tAsg (tOp tkAdd (tOp (rIxL K) (tVar 0) (tC (V.int 1))) (tC (V.int 1))) (gSub (tVar 0) (tC (V.int 1)) rSetL)) (tSeq (tIfS (tTest (tOp tkGt (tOp (rIxL K) (tVar 0) (tC (V.int 1))) (tCB (tkLen K) (tCons (tOp (rIxL K) (tVar 0) (tC (V.int 0))) tNil)))) (tSeq (tAsg (tOp tkMod (tCB tkI1 (tCons (tOp tkAdd (tOp tkMul (tOp (rIxL K) (tVar 0) (tC (V.int 2))) (tC (V.int 48271))) (tC (V.int 11))) tNil)) (tC (V.int 2147483647))) (gSub (tVar 0) (tC (V.int 2)) rSetL)) (tRet (tOp tkMod (tCB tkI1 (tCons (tOp tkDiv (tOp (rIxL K) (tVar 0) (tC (V.int 2))) (tC (V.int 7))) tNil)) (tVar 1)))) tNext) (tSeq (tAsg (tOp (rIxL K) (tOp (rIxL K) (tVar 0) (tC (V.int 0))) (tOp tkSub (tOp (rIxL K) (tVar 0) (tC (V.int 1))) (tC (V.int 1)))) (gName 3)) (tSeq (tAsg (tOp tkMod (tCB tkI1 (tCons (tOp tkAdd (tOp tkAdd (tOp tkMul (tOp (rIxL K) (tVar 0) (tC (V.int 2))) (tC (V.int 48271))) (tVar 3)) (tC (V.int 11))) tNil)) (tC (V.int 2147483647))) (gSub (tVar 0) (tC (V.int 2)) rSetL)) (tSeq (tIfS (tTest (tOp tkGe (tVar 3) (tOp tkPow (tC (V.int 10)) (tC (V.int 18))))) (tAsg (tOp tkDiv (tVar 3) (tVar 1)) (gSub (tVar 0) (tC (V.int 3)) rSetL)) tNext) (tRet (tOp tkMod (tCB tkI1 (tCons (tVar 3) tNil)) (tVar 1)))))))))
theorem taken_read {c : Ct} {v : Vo} {g : Gd} {H : Hp} {W : List MO} {m : Int} {R : D → List MO → Prop} {Q : VK} {Dn : Ends} {y z : Option V} (o : Ok c v g H W) (h0 : 0 < m) (h1 : m < 1073741824) (r : ∀ n, 0 ≤ n → n < m → R (.int n) W) (q : Cont c v .st g H R Q) (hd : Dn.rt = Q) :
    tTaken c.K Dn [some (.ref v.rw), some (.int m), y, z] H := by
  subst hd
  have K0 : ∀ {i : Int}, 0 ≤ i % m ∧ i % m < m := fun {i} => ⟨Int.emod_nonneg _ (by omega), Int.emod_lt_of_pos _ h0⟩
  have kk := o.vk.1
  obtain ⟨a, _, i, j, k, e, hi, _, up⟩ := v.tk H o.ri
  -- the row as it stands
  have fin : ∀ (i' j' k' n : Int), 0 ≤ i' → 0 ≤ n → n < m → Dn.rt (.int n) (upd H v.rw (rowO a i' j' k')) := fun i' j' k' n hi' a1 a2 => by
    obtain ⟨o2, m2⟩ := o.drawn e (up i' j' k' hi')
    exact q _ _ g _ W (r n a1 a2) m2 o2 (.int n)
  have sl : ∀ {H1 : Hp} {i' j' k' : Int}, H1 v.rw = some (rowO a i' j' k') → SqL c.K H1 v.rw [.ref a, .int i', .int j', .int k'] := fun e1 => SqL.of e1
  refine ⟨_, rfl, _, _, _, _, rfl, rfl, sl e, rfl, _, _, rfl, rfl, _, rfl, ?_⟩
  refine ite2 (fun hk => ?_) (fun hk => ?_)
  · refine ⟨_, rfl, _, _, _, _, rfl, rfl, sl e, rfl, .inl ⟨_, rfl, _, rfl, _, _, rfl, rfl, h0, ?_⟩⟩
    refine ⟨_, rfl, _, _, _, _, rfl, rfl, sl e, rfl, _, rfl, _, _, rfl, rfl, ⟨h0, h1⟩, _, rfl, _, _, _, _, rfl, rfl, e, rfl, _, rfl, ?_⟩
    exact fin i j (k / m) _ hi K0.1 K0.2
  · refine ⟨_, rfl, _, _, _, _, rfl, rfl, sl e, rfl, _, _, rfl, rfl, _, rfl, _, _, _, _, rfl, rfl, e, rfl, ?_⟩
    have e2 : upd H v.rw (.lst (List.set [.ref a, .int i, .int j, .int k] 1 (.int (i + 1)))) v.rw = some (rowO a (i + 1) j k) := upd_same
    obtain ⟨o2, m2⟩ := o.drawn e (up (i + 1) j k (by omega))
    obtain ⟨ns, hs2⟩ : ∃ ns : List Int, SqL c.K (upd H v.rw (.lst (List.set [.ref a, .int i, .int j, .int k] 1 (.int (i + 1))))) a (ns.map V.int) := by
      obtain ⟨a2, ns2, i2, j2, k2, e3, _, hs3, _⟩ := v.tk _ o2.ri
      have e4 := e2.symm.trans e3
      cases e4
      rw [kk] at hs3
      exact ⟨ns2, hs3⟩
    refine ⟨_, rfl, _, _, _, _, rfl, rfl, sl e2, rfl, _, rfl, _, _, _, _, rfl, rfl, sl e2, rfl, _, ns.length, rfl, .inl ⟨_, hs2, by rw [List.length_map]⟩, _, _, rfl, rfl, _, rfl, ?_⟩
    refine ite2 (fun hk2 => ?_) (fun hk2 => ?_)
    · refine ⟨_, rfl, _, _, _, _, rfl, rfl, sl e2, rfl, _, _, rfl, rfl, .inr ⟨by decide, by decide⟩, _, _, rfl, rfl, .inl ⟨_, rfl, _, _, rfl, rfl, (by show (0 : Int) < 2147483647; decide), ?_⟩⟩
      refine ⟨_, rfl, _, _, _, _, rfl, rfl, e2, rfl, ?_⟩
      refine ⟨_, rfl, _, _, _, _, rfl, rfl, sl upd_same, rfl, _, _, rfl, rfl, ⟨by decide, by decide⟩, .inl ⟨_, rfl, _, rfl, _, _, rfl, rfl, h0, ?_⟩⟩
      rw [upd_upd]
      exact fin (i + 1) _ k _ (by omega) K0.1 K0.2
    · have hlt : (i + 1 - 1).toNat < ns.length := by
        have := of_decide_eq_false (Bool.eq_false_iff.mpr hk2)
        omega
      have hat : atI (ns.map V.int) (i + 1 - 1) = some (.int (ns[(i + 1 - 1).toNat])) := by
        have hx : ixN (ns.map V.int).length (i + 1 - 1) = some (i + 1 - 1).toNat := by
          unfold ixN
          rw [if_pos (by omega), if_pos (by rw [List.length_map]; omega)]
        unfold atI
        rw [hx]
        show (ns.map V.int)[(i + 1 - 1).toNat]? = _
        rw [List.getElem?_map, List.getElem?_eq_getElem hlt]
        rfl
      refine ⟨_, rfl, _, _, _, _, rfl, rfl, sl e2, rfl, _, rfl, _, _, _, _, rfl, rfl, sl e2, rfl, _, _, rfl, rfl, _, _, _, _, rfl, rfl, hs2, hat, ?_⟩
      refine ⟨_, rfl, _, _, _, _, rfl, rfl, sl e2, rfl, _, _, rfl, rfl, .inr ⟨by decide, by decide⟩, _, rfl, _, _, rfl, rfl, _, _, rfl, rfl, .inl ⟨_, rfl, _, _, rfl, rfl, (by show (0 : Int) < 2147483647; decide), ?_⟩⟩
      refine ⟨_, rfl, _, _, _, _, rfl, rfl, e2, rfl, ?_⟩
      refine ⟨_, rfl, _, _, rfl, rfl, ⟨by decide, by decide, by decide⟩, _, _, rfl, rfl, _, rfl, ?_⟩
      refine ite2 (fun hk3 => ?_) (fun hk3 => ?_)
      · refine ⟨_, rfl, _, rfl, _, _, rfl, rfl, ⟨h0, h1⟩, _, rfl, _, _, _, _, rfl, rfl, upd_same, rfl, _, rfl, .inl ⟨_, rfl, _, rfl, _, _, rfl, rfl, h0, ?_⟩⟩
        rw [upd_upd, upd_upd]
        exact fin (i + 1) _ _ _ (by omega) K0.1 K0.2
      · refine ⟨_, rfl, .inl ⟨_, rfl, _, rfl, _, _, rfl, rfl, h0, ?_⟩⟩
        rw [upd_upd]
        exact fin (i + 1) _ k _ (by omega) K0.1 K0.2
theorem taken_fg {k : Nat} (F : Fun K x qual st f fd) (S : FnScope nTaken ["row", "many"] (defScope st))
    (hb : ∀ (cdv : Value) (A : Around) (outer : List PySem.Env) (s : Shared) (H : Hp) (E : XK), PSs (Xf P w K mg base nTaken qual (defScope st) f cdv A outer s H E) (defBody st) (tTaken K)) : FG P w K mg base (k + 1) f fd ["row", "many"] (spD ⟨K, mg⟩ 2 sTaken) := by
  refine FGg.body F S (fun vs H Q E ⟨v, g, W, ds, R, ER, l, _⟩ => l) fun cdv A outer s H vs Q E _ _ hr G ⟨v, g, W, ds, R, ER, l, o, ra, hs, xw, q⟩ => ⟨_, hb cdv A outer s H E, ?_⟩
  unfold sTaken at hs
  split at hs
  · rename_i m
    obtain ⟨⟨h0, h1⟩, hr⟩ := hs
    obtain ⟨u, w2, rfl, r1, r2⟩ := rep2 ra
    cases r1
    cases r2
    exact taken_read (c := ⟨K, mg⟩) (y := none) (z := none) o h0 h1 hr q rfl
  · exact hs.elim
end
end Y

set_option maxRecDepth 100000
set_option maxHeartbeats 2000000
namespace Y
open PySem PySem.Spec PyProof.Rows L2

/-! ### the def that tells of a lambda what it raises: its clauses as data -/
/-- except cls as e: return (word, e.value); two: (word, (e.what, e.limit)) -/
structure RC where
  cls : Str
  word : Str
  two : Bool := false
def refAt : List RC → Exn → Option D
  | [], _ => none
  | c :: r, x => if c.cls = x.cls then (if c.two = true then (match x.fs.lookup ("what" : Str), x.fs.lookup ("limit" : Str) with | some a, some b => some (.tup [.str c.word, .tup [a, b]]) | _, _ => none) else (x.fs.lookup ("value" : Str)).map fun d => .tup [.str c.word, d]) else refAt r x
def eRef (rcs : List RC) (f : Env → M D) : Env → M D := fun env W R _ => f env W (fun _ W' => R (.tup [.str "", .non]) W') fun x W' => ∃ d, refAt rcs x = some d ∧ R d W'
/-- a clause's suite -/
def tsOf (C : Addr) (c : RC) : Addr → Value → Option Addr → TS := fun a cls d => if c.two = true
  then tRet (tTup (tCons (tC (.str c.word)) (tCons (tTup (tCons (tXf a cls d C "what" (tVar 1)) (tCons (tXf a cls d C "limit" (tVar 1)) tNil))) tNil)))
  else tRet (tTup (tCons (tC (.str c.word)) (tCons (tXf a cls d C "value" (tVar 1)) tNil)))
/-- what the clauses wish of the lambda's exception -/
def told (C : Addr) (c : RC) (cls : Value) (d : Option Addr) (H : Hp) (Q : VK) : Prop := cls = .ref C ∧ ∃ (dd : Addr) (fs : List (Str × V)), d = some dd ∧ H dd = some (.xd fs) ∧
  if c.two = true then ∃ v w, fs.lookup ("what" : Str) = some v ∧ fs.lookup ("limit" : Str) = some w ∧ ∀ p, H p = none → ∀ q, upd H p (.tup [v, w]) q = none → Q (.ref q) (upd (upd H p (.tup [v, w])) q (.tup [.str c.word, .ref p]))
  else ∃ v, fs.lookup ("value" : Str) = some v ∧ ∀ p, H p = none → Q (.ref p) (upd H p (.tup [.str c.word, v]))
def pick (K : PySem.W.Frag) : List (Addr × RC) → Value → Option Addr → Hp → VK → Prop
  | [], _, _, _, _ => False
  | (C, c) :: r, cls, d, H, Q => ∃ b, PySem.W.exmOne K cls (.ref C) = some b ∧ (b = true → told C c cls d H Q) ∧ (b = false → pick K r cls d H Q)
def TRef (K : PySem.W.Frag) (l : List (Addr × RC)) : (XK → Hp → VK → Prop) → Hp → VK → Prop := fun tl H Q => tl (fun cls d H' => pick K l cls d H' Q) H fun _ H' => ([V.str "", V.non].length ≤ sizeLine) ∧ ∀ p, H' p = none → Q (.ref p) (upd H' p (.tup [.str "", .non]))
def clOf : Addr × RC → Cl := fun p => (.ref p.1, tsOf p.1 p.2)
theorem takes_len {X : Cx} {W : WX} (t : Takes X W) : Takes X fun cls d σ H => σ.length = X.N.length → W cls d σ H :=
  fun u s ⟨a, B, sI, pins, σ, H, cls, d, e, I, nb, up, sky, na, os, ag, w⟩ => t u s ⟨a, B, sI, pins, σ, H, cls, d, e, I, nb, up, sky, na, os, ag, w I.len⟩
section
variable {X : Cx} {Ng : List Str} {x a q : Str} {sg : Scope} {g : Addr} {cdg : Value} {hd0 : ExceptHandler} {hds : List ExceptHandler} {l : List (Addr × RC)} {p1 p2 p3 p4 p5 p6 p7 p8 : Pos} {j1 j2 k1 : Nat}
theorem pick_each {K : PySem.W.Frag} {Dn : Ends} {cls : Value} {d : Option Addr} {σ : L2.St} {H : Hp} (hl : 1 < σ.length) : ∀ {l : List (Addr × RC)}, pick K l cls d H Dn.rt → wEach K 1 (fun _ _ _ _ => False) Dn (l.map clOf) cls d σ H
  | [], h => h.elim
  | (C, c) :: r, ⟨b, e, h1, h2⟩ => by
    refine ⟨b, e, fun hb a _ => ?_, fun hb => pick_each hl (h2 hb)⟩
    obtain ⟨ec, dd, fs, ed, eH, hh⟩ := h1 hb
    have ev : (σ.set 1 (some (V.ref a)))[1]? = some (some (.ref a)) := List.getElem?_set_self hl
    show tsOf C c a cls d _ _ H
    unfold tsOf
    cases ct : c.two with
    | true =>
      rw [ct, if_pos rfl] at hh
      rw [if_pos rfl]
      obtain ⟨v, w, e1, e2, hq⟩ := hh
      exact ⟨_, ev, rfl, ec, dd, fs, v, ed, eH, e1, _, ev, rfl, ec, dd, fs, w, ed, eH, e2, by show 2 ≤ sizeLine; decide, fun p hp => ⟨by show 2 ≤ sizeLine; decide, hq p hp⟩⟩
    | false =>
      rw [ct, if_neg Bool.false_ne_true] at hh
      rw [if_neg Bool.false_ne_true]
      obtain ⟨v, e1, hq⟩ := hh
      exact ⟨_, ev, rfl, ec, dd, fs, v, ed, eH, e1, by show 2 ≤ sizeLine; decide, hq⟩
theorem ref_gives (hN : Ng.Nodup) (h2 : Ng.length = 2) (hi : Ng[1]? = some ("e" : Str)) (hln : sg.names.lookup ("e" : Str) = some .local)
    (hh : ∀ (s : Shared) (H : Hp), HdA (cxOf C8.CX0 X.prog X.w X.K X.mg X.base Ng x sg g cdg X.A X.stack s H C8.E0).nox "e" (hd0 :: hds) (l.map clOf)) :
    LamX.GivesTo X Ng x sg g cdg [.Try [.Expr (.Call (.Name a p1) [] [] p2) p3] (hd0 :: hds) [] [] p4, .Return (some (.Tuple [.Constant (.str "") j1 p5, .Constant .none j2 p6] k1 p7)) p8] a q (TRef X.K l) := by
  intro f c' s H Q tl act hc h
  refine ⟨_, pss_cons (ps_each (X := (cxOf C8.CX0 X.prog X.w X.K X.mg X.base Ng x sg g cdg X.A X.stack s H C8.E0).nox) (i := 1)
      (tb := fun W Dn σ H => ∃ Ech : XK, (∀ cls d σ' H', σ'.length = Ng.length → Ech cls d H' → W cls d σ' H') ∧ σ[0]? = some (some (.ref f)) ∧ H c' = some (LamX.CodeO c' q) ∧ tl Ech H fun _ H' => Dn.nx σ H')
      rfl rfl hN hi hln LamX.takes0 (fun W pn xe tk _ => ?_) (hh s H)) (pss_one (ps_ret (pe_tup (pa_cons pe_str (pa_cons pe_non pa_nil))))), ?_⟩
  · refine ⟨fun pins s1 σ H1 Dn I ⟨Ech, hW, h1, h3, h4⟩ => ?_⟩
    have hp := act (fun cls d σ H => σ.length = Ng.length → W cls d σ H) pn xe Ech p1 p2 (takes_len tk) fun cls d σ' H' he hlen => hW cls d σ' H' hlen he
    have hq := pss_one (ps_expr (pos := p3) hp)
    exact hq.run pins s1 σ H1 Dn I ⟨h1, h3, h4⟩
  · have h0 : (L2.start Ng [V.ref f])[0]? = some (some (V.ref f)) := rfl
    exact ⟨_, fun cls d σ' H' hlen he => pick_each (by omega) he, h0, hc, h⟩
end
/-! ### what the clauses lean on -/
structure Rfs (K : PySem.W.Frag) (mg : Str → Option Value) (rcs : List RC) (l : List (Addr × RC)) : Prop where
  eq : l.map (·.2) = rcs
  cl : ∀ p ∈ l, mg p.2.cls = some (.ref p.1)
  wl : ∀ p ∈ l, p.2.word.length ≤ sizeLine
  exm : ∀ p ∈ l, ∀ r ∈ l, PySem.W.exmOne K (.ref p.1) (.ref r.1) = some (decide (p.2.cls = r.2.cls))
theorem RepF.look {c : Ct} {r : Addr} {g : Gd} {n : Str} {d : D} : ∀ {vs : List (Str × V)} {ds : List (Str × D)}, RepF c r g vs ds → ds.lookup n = some d → ∃ v, vs.lookup n = some v ∧ Rep c r g v d
  | _, _, .nil, e => by cases e
  | _, _, .cons (k := k) h t, e => by
    rw [List.lookup_cons] at e ⊢
    cases q : n == k with
    | true =>
      rw [q] at e
      cases e
      exact ⟨_, rfl, h⟩
    | false =>
      rw [q] at e
      exact RepF.look t e
theorem refAt_mem {x : Exn} {d : D} : ∀ {rcs : List RC}, refAt rcs x = some d → ∃ c ∈ rcs, c.cls = x.cls
  | [], h => by cases h
  | c :: r, h => by
    unfold refAt at h
    by_cases e : c.cls = x.cls
    · exact ⟨c, List.mem_cons_self, e⟩
    · rw [if_neg e] at h
      obtain ⟨c2, h1, h2⟩ := refAt_mem h
      exact ⟨c2, List.mem_cons_of_mem _ h1, h2⟩
theorem pick_of {c : Ct} {v : Vo} {g : Gd} {H : Hp} {W : List MO} {R : D → List MO → Prop} {Q : VK} {cls : Value} {dx : Option Addr} {x : Exn} {d : D} (o : Ok c v g H W) (q : Cont c v .st g H R Q) (hr : R d W) (C0 : Addr) (hC0 : c.mg x.cls = some (.ref C0)) (hx : RepX c v g H cls dx x) :
    ∀ {l : List (Addr × RC)}, (∀ p ∈ l, c.mg p.2.cls = some (.ref p.1)) → (∀ p ∈ l, p.2.word.length ≤ sizeLine) → (∀ p ∈ l, PySem.W.exmOne c.K (.ref C0) (.ref p.1) = some (decide (x.cls = p.2.cls))) → refAt (l.map (·.2)) x = some d → pick c.K l cls dx H Q
  | [], _, _, _, h => by cases h
  | (C, rc) :: r, hm, hw, he, h => by
    obtain ⟨C1, dd, vs, e1, e2, e3, e4, rf⟩ := id hx
    rw [hC0] at e1
    cases e1
    have h : refAt (rc :: r.map (·.2)) x = some d := h
    refine ⟨_, by rw [e2]; exact he _ List.mem_cons_self, fun hb => ?_, fun hb => ?_⟩
    · have ecl : x.cls = rc.cls := of_decide_eq_true hb
      have eC : C = C0 := by
        have := hm _ List.mem_cons_self
        dsimp only at this
        rw [← ecl, hC0] at this
        cases this
        rfl
      subst eC
      refine ⟨e2, dd, vs, e3, e4, ?_⟩
      unfold refAt at h
      rw [if_pos ecl.symm] at h
      cases ct : rc.two with
      | true =>
        rw [ct, if_pos rfl] at h
        rw [if_pos rfl]
        cases l1 : x.fs.lookup ("what" : Str) with
        | none => rw [l1] at h; cases h
        | some d1 =>
          cases l2 : x.fs.lookup ("limit" : Str) with
          | none => rw [l1, l2] at h; cases h
          | some d2 =>
            rw [l1, l2] at h
            cases h
            obtain ⟨v1, k1, r1⟩ := rf.look l1
            obtain ⟨v2, k2, r2⟩ := rf.look l2
            refine ⟨v1, v2, k1, k2, fun p hp s hs => ?_⟩
            obtain ⟨g2, m2, o2, r3⟩ := pairT o hp r1 r2
            exact (q.mv m2).newT o2 hr (by show 2 ≤ sizeLine; decide) (.cons (.str _ (hw _ List.mem_cons_self)) (.cons r3 .nil)) s hs
      | false =>
        rw [ct, if_neg Bool.false_ne_true] at h
        rw [if_neg Bool.false_ne_true]
        cases l1 : x.fs.lookup ("value" : Str) with
        | none => rw [l1] at h; cases h
        | some d1 =>
          rw [l1] at h
          cases h
          obtain ⟨v1, k1, r1⟩ := rf.look l1
          refine ⟨v1, k1, fun p hp => ?_⟩
          exact q.newT o hr (by show 2 ≤ sizeLine; decide) (.cons (.str _ (hw _ List.mem_cons_self)) (.cons r1 .nil)) p hp
    · have ne : rc.cls ≠ x.cls := fun w => by
        have := of_decide_eq_false hb
        exact this w.symm
      unfold refAt at h
      rw [if_neg ne] at h
      exact pick_of o q hr C0 hC0 hx (fun p hp => hm p (List.mem_cons_of_mem _ hp)) (fun p hp => hw p (List.mem_cons_of_mem _ hp)) (fun p hp => he p (List.mem_cons_of_mem _ hp)) h
/-- the refuser as it stands: its def, its clauses -/
structure Refu (K : PySem.W.Frag) (mg : Str → Option Value) (x a : Str) (rcs : List RC) : Prop where
  ex : ∃ (g : Addr) (st : Stmt) (fd : FuncData) (l : List (Addr × RC)), mg x = some (.ref g) ∧ Fun K x x st g fd ∧ Binds K fd [a] [] ∧ FnScope [a, "e"] [a] (defScope st) ∧ Vis (defScope st) a ∧ Rfs K mg rcs l ∧
    ∀ (X : Cx) (cdg : Value) (q : Str), X.K = K → X.mg = mg → LamX.GivesTo X [a, "e"] x (defScope st) g cdg (defBody st) a q (TRef K l)
/-- the law's own frame: where its lambdas' code lies -/
structure LamG (X : Cx) : Prop where
  ex : ∃ c P : Addr, LamX.TabB X.base X.mg c P ∧ X.env.code = .ref c ∧ lamT X.K = [(P, X.env.qual ++ "<lambda>")]
theorem je_ref {X : Cx} {E : XK} {rcs : List RC} {k : Nat} {x a : Str} {params : Arguments} {body : Expr} {scope : Scope} {p lpos pos : Pos} {f : Env → M D} (LG : LamG X) (RF : Refu X.K X.mg x a rcs) (hr : Room (k + 2) X.A) (L : LamX.LamS X.env.scope scope) (hN : X.N.Nodup)
    (hbody : ∀ (A : Around) (outer : List PySem.Env) (s : Shared) (H : Hp) (E : XK) (f' c' : Addr), Room k (A.deeper (LamX.lamEnv X scope s.heap.objs.size f' c')) → Gx (LamX.lamCx X A outer s H E scope f' c') E → JE (LamX.lamCx X A outer s H E scope f' c') E .wk body f)
    (hg : Gl X x := by rfl) (hdef : defaultsOf params X.env = ([], []) := by rfl)
    (hbind : ∀ (q : Str) (cl : List (Str × Addr)) (pm cv ctv : Value), bindArgs (PySem.W.kla_fn "<lambda>" q params body scope cl pm cv ctv) ⟨[], []⟩ = pure [] := by intros; rfl)
    (hdb : (x == ("__debug__" : Str)) = false := by decide) (hd : (a == ("__debug__" : Str)) = false := by decide) (hcd : (a == ("__classdict__" : Str)) = false := by decide) :
    JE X E .st (.Call (.Name x p) [.Lambda params body scope lpos] [] pos) (eRef rcs f) := by
  obtain ⟨c, P, TB, hcode, eT⟩ := LG.ex
  obtain ⟨g, st, fd, l, hm, F, hb, Sg, hva, rf, hG⟩ := RF.ex
  obtain ⟨oc, od, kV, doc, pm, an, cdv, ct, osl, rfl, lk, hcd2⟩ := F.ex
  have hmT : (P, X.env.qual ++ "<lambda>") ∈ lamT X.K := by rw [eT]; exact List.mem_singleton.mpr rfl
  have hu : ∀ t ∈ lamT X.K, t.1 = P → t.2 = X.env.qual ++ "<lambda>" := fun t ht _ => by
    rw [eT] at ht
    rw [List.mem_singleton.mp ht]
  refine ⟨(LamX.pe_lamcall (t := fun E => tD (Cx.ct X) E .wk f) (Ng := [a, "e"]) (k := k) hg hm F.kp lk hcd2 hb Sg rfl hva (hG X cdv _ rfl rfl) TB hcode hmT hu hr L hdef hbind (fun A outer s H E f' c' hr2 => (hbody A outer s H E f' c' hr2 ?_).pe) hdb hd hcd).imp fun σ H Q ⟨v, g1, env, W, R, ER, o, eo, hf, xw, q⟩ => ?_⟩
  · exact ⟨rfl, hN, by have := hr2.un; show (A.deeper _).units + 100 < cLine; omega, takes_of rfl rfl rfl rfl, passes_of rfl⟩
  · have eT2 := o.vk.2
    have tb := v.tb H o.ri
    rw [eT2] at tb
    refine ⟨tb, fun H1 e1 t1 => ?_⟩
    obtain ⟨o1, m1⟩ := o.ext e1 (by rw [eT2]; exact t1)
    refine ⟨v, g1, env, W, _, _, o1, eo.mono m1, hf, fun y W2 g2 H2 cls dx ⟨d, hd, hr2⟩ m2 o2 rx => ?_, fun u d g2 H2 W2 hr2 m2 o2 w2 => ⟨by show 2 ≤ sizeLine; decide, fun p hp => ?_⟩⟩
    · obtain ⟨C0, dd, vs, z1, z2, z3, z4, z5⟩ := id rx
      rw [← rf.eq] at hd
      obtain ⟨c1, hc1, ec1⟩ := refAt_mem hd
      obtain ⟨p1, hp1, ep1⟩ := List.mem_map.mp hc1
      refine pick_of (c := Cx.ct X) o2 (q.mv (m1.trans m2)) hr2 C0 z1 rx rf.cl rf.wl (fun r hr3 => ?_) hd
      have ec : C0 = p1.1 := by
        have h1 := rf.cl p1 hp1
        rw [ep1, ec1] at h1
        have z1 : X.mg y.cls = some (.ref C0) := z1
        rw [z1] at h1
        cases h1
        rfl
      rw [ec, rf.exm p1 hp1 r hr3, ep1, ec1]
    · exact (q.mv (m1.trans m2)).newT o2 hr2 (by show 2 ≤ sizeLine; decide) (.cons (.str _ (by show 0 ≤ sizeLine; decide)) (.cons .non .nil)) p hp
end Y

set_option maxRecDepth 100000
set_option maxHeartbeats 2000000
namespace Y
open PySem PySem.Spec PyProof.Rows L2

/-! ### a call of what a slot holds -/
abbrev FTab := List (Str × Nat × (List D → M D))
def callee (i : Nat) (n : Nat) (tbl : FTab) (env : Env) : Option (List D → M D) := match env[i]? with
  | some (.v (.fn y)) => (match tbl.lookup y with
    | some p => if p.1 = n then some p.2 else none
    | none => none)
  | _ => none
def eCallL (i : Nat) (n : Nat) (tbl : FTab) (fs : Env → M (List D)) : Env → M D := fun env => match callee i n tbl env with
  | some sem => bnd (fs env) sem
  | none => fail
theorem callee_some {i n : Nat} {tbl : FTab} {env : Env} {sem : List D → M D} (h : callee i n tbl env = some sem) : ∃ y, env[i]? = some (.v (.fn y)) ∧ tbl.lookup y = some (n, sem) := by
  unfold callee at h
  split at h
  · rename_i y hy
    refine ⟨y, hy, ?_⟩
    cases e : tbl.lookup y with
    | none => rw [e] at h; cases h
    | some p =>
      rw [e] at h
      dsimp only at h
      by_cases hp : p.1 = n
      · rw [if_pos hp] at h
        cases h
        rw [← hp]
      · rw [if_neg hp] at h
        cases h
  · cases h
theorem mem_look {α : Type} {y : Str} {a : α} : ∀ {l : List (Str × α)}, l.lookup y = some a → (y, a) ∈ l
  | [], h => by cases h
  | (k, b) :: r, h => by
    rw [List.lookup_cons] at h
    cases q : y == k with
    | true =>
      rw [q] at h
      cases h
      rw [eq_of_beq q]
      exact List.mem_cons_self
    | false =>
      rw [q] at h
      exact List.mem_cons_of_mem _ (mem_look h)
section
variable {X : Cx} {E : XK} {k n : Nat} {x : Str} {e : Expr} {es : List Expr} {fs : Env → M (List D)} {p pos : Pos}
theorem je_callL (i : Nat) {tbl : FTab} (F : ∀ t ∈ tbl, Fn X.prog X.w X.K X.mg X.base k t.1 t.2.1 t.2.2) (hr : Room k X.A) (hx : Passes (L2.CX X.prog X.w) X E) (ha : JA X E .st (some n) (e :: es) fs) (hN : X.N[i]? = some x := by rfl) (hv : Vis X.env.scope x := by first | exact Or.inl rfl | exact Or.inr (Or.inl rfl) | exact Or.inr (Or.inr rfl))
    (hdb : (x == ("__debug__" : Str)) = false := by decide) (hcd : (x == ("__classdict__" : Str)) = false := by decide)
    (he : starEach (e :: es) X.env = (false, eval e X.env) :: starEach es X.env := by rfl) (hpl : (backTo pos (starEach es X.env)).any (·.1) = false := by rfl) : JE X E .st (.Call (.Name x p) (e :: es) [] pos) (eCallL i n tbl fs) := by
  refine ⟨⟨fun pins s σ H Q I ⟨v, g, env, W, R, ER, o, eo, hf, xw, q⟩ => ?_⟩⟩
  unfold eCallL at hf
  cases hc : callee i n tbl env with
  | none =>
    rw [hc] at hf
    exact hf.elim
  | some sem =>
    rw [hc] at hf
    obtain ⟨y, hy, hl⟩ := callee_some hc
    obtain ⟨f, fd, ps, FF, hm, hk, hb⟩ := (F _ (mem_look hl)).ex
    obtain ⟨u, eu, ru⟩ := eo.sl i _ hy
    cases ru with
    | fn e2 =>
      have e2 : X.mg y = some (.ref _) := e2
      rw [hm] at e2
      cases e2
      refine wpAny_Call_Name_kw (thn ((pe_var (pos := p) hN hv hdb hcd).run pins s σ H (fun v H1 => v = .ref f ∧ H1 = H) I ⟨.ref f, eu, rfl, rfl⟩) fun u1 s1 ⟨v1, H1, I1, r1, q1⟩ => ?_)
      obtain ⟨rfl, rfl⟩ := q1
      cases r1
      refine PySem.W.callWith_K (h₀ := X.base) I1.ok.mod.kin hk (thn (ha.pa.run pos pins s1 σ H1 (fun vs H2 => spD ⟨X.K, X.mg⟩ n sem vs H2 Q E) I1 ⟨v, g, env, W, _, _, o, eo, hf, xw, fun us ds g1 H2 W1 h1 m1 o1 w1 l1 => ?_⟩) fun us s2 ⟨vs, H2, I2, r, h1⟩ => ⟨I2.kIn, ?_⟩) he hpl
      · exact ⟨v, g1, W1, ds, R, ER, l1 n rfl, o1, w1, h1, xw.mv m1, q.mv m1⟩
      · exact run_G FF hr hb hx I2 r h1
end

/-! ### repr of data -/
def dRepr : D → M D
  | .tup xs => ask ((D.tup xs).okd 60 = true ∧ (D.tup xs).toP.showable = true ∧ (D.tup xs).toP.shown.length ≤ sizeLine) (ret (.str (D.tup xs).toP.shown))
  | _ => fail
mutual
theorem D.nodict : ∀ d : D, d.toP.hasDict = false
  | .non => by simp [D.toP, PyData.hasDict]
  | .bl _ => by simp [D.toP, PyData.hasDict]
  | .int _ => by simp [D.toP, PyData.hasDict]
  | .str _ => by simp [D.toP, PyData.hasDict]
  | .lst xs => by simpa [D.toP, PyData.hasDict] using D.nodicts xs
  | .tup xs => by simpa [D.toP, PyData.hasDict] using D.nodicts xs
  | .dct _ => by simp [D.toP, PyData.hasDict]
  | .obj _ _ => by simp [D.toP, PyData.hasDict]
  | .fn _ => by simp [D.toP, PyData.hasDict]
  | .row => by simp [D.toP, PyData.hasDict]
  | .mut _ => by simp [D.toP, PyData.hasDict]
theorem D.nodicts : ∀ ds : List D, PyData.hasDictAll (D.toPs ds) = false
  | [] => by simp [D.toPs, PyData.hasDictAll]
  | d :: ds => by simp [D.toPs, PyData.hasDictAll, D.nodict d, D.nodicts ds]
end
section
variable {X : Cx} {E : XK} {fa : Env → M D} {a : Expr} {p pos : Pos}
abbrev rRepr (K : PySem.W.Frag) : List V → Hp → VK → Prop := fun xs H Q => ∃ a d, xs = [V.ref a] ∧ Dp K H (V.ref a) d ∧ d.depth ≤ 60 ∧ d.hasDict = false ∧ d.showable = true ∧ d.shown.length ≤ sizeLine ∧ Q (.str d.shown) H
theorem cr_repr (hg : X.A.guards = some []) (hu : X.A.units + 100 < cLine) : CallR X (.builtin "repr") (rRepr X.K) := by
  intro pins s σ H xs us Q I r h
  obtain ⟨a, d, rfl, hd, h1, h2, h3, h4, q⟩ := h
  obtain ⟨u, rfl, ru⟩ := vals1 r
  obtain ⟨as, rd⟩ := hd.reads I d _ _ ru
  cases ru
  exact repr_of_reads' rd h3 (fun e => by rw [h2] at e; cases e) hg (by omega) (fun _ _ e => e) (fun h' u tk hk => ⟨.str _, H, I.kept (t' := tk) hk, ⟨_, rfl⟩, q⟩) h4
theorem op1_repr {c : Ct} : Op1 c .st (on1 (rRepr c.K)) dRepr := by
  intro v g H W R ER Q u x o hx hf q
  cases x with
  | tup ds =>
    obtain ⟨⟨h1, h2, h3⟩, hf⟩ := hf
    have dp := hx.dp o.bh (D.okd_plain 60 _ h1)
    obtain ⟨p, vs, rfl, _⟩ := hx.tup o
    exact ⟨p, _, rfl, dp, (D.okd_lay 60 _ h1).2, D.nodict _, h2, h3, q.now o hf (.str _ h3)⟩
  | _ => exact hf.elim
end
end Y

set_option maxRecDepth 100000
set_option maxHeartbeats 2000000
namespace Y
open PySem PySem.Spec PyProof.Rows L2
open PySem.W (EachIs AllAlike Sortable dataLe dataLt minD maxD)

theorem D.toPs_eq : ∀ ds : List D, D.toPs ds = ds.map D.toP
  | [] => rfl
  | d :: ds => by rw [D.toPs, List.map_cons, D.toPs_eq ds]
theorem D.plains_eq : ∀ ds : List D, D.plains ds = ds.all D.plain
  | [] => rfl
  | d :: ds => by rw [D.plains, List.all_cons, D.plains_eq ds]
/-! ### sorted -/
theorem each_zip {K : PySem.W.Frag} {H : Hp} : ∀ {xs : List V} {us : List Value} {ds : List PyData}, Vals xs us → DpAll K H xs ds → EachIs (fun v (b : V × PyData) => RelV b.1 v ∧ Dp K H b.1 b.2) us (xs.zip ds)
  | _, _, _, .nil, .nil => .nil
  | _, _, _, .cons r rs, .cons d dr => .cons ⟨r, d⟩ (each_zip rs dr)
theorem each_vals {P : V × PyData → Prop} : ∀ {us : List Value} {bs : List (V × PyData)}, EachIs (fun v (b : V × PyData) => RelV b.1 v ∧ P b) us bs → Vals (bs.map (·.1)) us
  | _, _, .nil => .nil
  | _, _, .cons r rs => .cons r.1 (each_vals rs)
theorem dpAll_len {K : PySem.W.Frag} {H : Hp} : ∀ {xs : List V} {ds : List PyData}, DpAll K H xs ds → xs.length = ds.length
  | _, _, .nil => rfl
  | _, _, .cons _ t => by rw [List.length_cons, List.length_cons, dpAll_len t]
theorem each_reads {X : Cx} {pins : List (Addr × Obj)} {σ : L2.St} {H : Hp} {s : Shared} (I : L2.Inv X pins σ H s) : ∀ {us : List Value} {bs : List (V × PyData)}, EachIs (fun v (b : V × PyData) => RelV b.1 v ∧ Dp X.K H b.1 b.2) us bs → EachIs (fun v (b : V × PyData) => ∃ as, Reads s.heap v b.2 as) us bs
  | _, _, .nil => .nil
  | _, _, .cons r rs => .cons (r.2.reads I _ _ _ r.1) (each_reads I rs)
/-- xs sorted by their data -/
def sortV (rev : Bool) (xs : List V) (ds : List PyData) : List V := ((xs.zip ds).mergeSort (dataLe rev fun b : V × PyData => b.2)).map (·.1)
def rSorted (K : PySem.W.Frag) (rev : Bool) : List V → Hp → VK → Prop := fun vs H Q => ∃ (a : Addr) (xs : List V) (ds : List PyData), vs = [V.ref a] ∧ SqL K H a xs ∧ DpAll K H xs ds ∧ AllAlike ds ∧ Sortable ds ∧ (∀ d ∈ ds, d.depth ≤ 60) ∧ ∀ p, H p = none → Q (.ref p) (upd H p (.lst (sortV rev xs ds)))
theorem snd_zip {α β : Type} : ∀ {xs : List α} {ds : List β}, xs.length = ds.length → (xs.zip ds).map (·.2) = ds
  | [], [], _ => rfl
  | x :: xs, d :: ds, h => by rw [List.zip_cons_cons, List.map_cons, snd_zip (by simpa using h)]
  | [], _ :: _, h => by cases h
  | _ :: _, [], h => by cases h
theorem sort_end {X : Cx} {pins : List (Addr × Obj)} {σ : L2.St} {H : Hp} {s : Shared} {Q : VK} {rev : Bool} {xs : List V} {its out : List Value} {ds : List PyData} (I : L2.Inv X pins σ H s) (hz : xs.length ≤ sizeLine) (hl : xs.length = ds.length)
    (hout : EachIs (fun v (b : V × PyData) => RelV b.1 v ∧ Dp X.K H b.1 b.2) out ((xs.zip ds).mergeSort (dataLe rev fun b : V × PyData => b.2))) (q : ∀ p, H p = none → Q (.ref p) (upd H p (.lst (sortV rev xs ds)))) :
    EP X pins σ Q (.ref (s.heap.objs.size + 1)) { s with heap := sortedAll s.heap its out.toArray } := by
  obtain ⟨ep, he'⟩ := PyProof.Rows.sortedAll_at s.heap its out.toArray
  have hlen : (sortV rev xs ds).length ≤ sizeLine := by
    unfold sortV
    rw [List.length_map, List.length_mergeSort, List.length_zip]
    omega
  exact ⟨.ref _, upd H (s.heap.objs.size + 1) (.lst (sortV rev xs ds)), I.laid (t' := s.toks) (fun _ _ => PyProof.Rows.sortedAll_old) (Nat.le_succ _) ⟨hlen, out, ep, each_vals hout, he'⟩, rfl, q _ (I.hok.fresh (Nat.le_succ _))⟩
section
variable {X : Cx}
theorem cr_sorted (hu : X.A.units + 100 < cLine) : CallR X (.builtin "sorted") (rSorted X.K false) := by
  intro pins s σ H vs us Q I r h
  obtain ⟨a, xs, ds, rfl, hs, hd, hal, hk, hdp, q⟩ := h
  obtain ⟨its, rv, hl, hz⟩ := I.list hs
  rw [Vals.ref1 r]
  have hll := dpAll_len hd
  have e := each_zip rv hd
  have ez : (xs.zip ds).map (fun b : V × PyData => b.2) = ds := snd_zip hll
  refine PySem.W.sorted_data (enc := fun b : V × PyData => b.2) hl.isList e (each_reads I e) (by rw [ez]; exact hal) (by rw [ez]; exact hk) (by rw [List.length_zip]; omega) (fun b hb => ?_) fun out ho hout => sort_end I hz hll hout q
  have := hdp b.2 (by rw [← ez]; exact List.mem_map.mpr ⟨b, hb, rfl⟩)
  omega
theorem cr_sortedR (hu : X.A.units + 100 < cLine) {rev : Bool} : CallRK X (.builtin "sorted") [Str.ofString "reverse"] (fun vs zs H Q => zs = [.bl rev] ∧ rSorted X.K rev vs H Q) := by
  intro pins s σ H vs zs us ws Q I r rz h
  obtain ⟨rfl, a, xs, ds, rfl, hs, hd, hal, hk, hdp, q⟩ := h
  obtain ⟨its, rv, hl, hz⟩ := I.list hs
  rw [Vals.ref1 r]
  obtain ⟨w1, rfl, e1⟩ := vals1 rz
  obtain rfl : w1 = Value.bool rev := e1
  have hll := dpAll_len hd
  have e := each_zip rv hd
  have ez : (xs.zip ds).map (fun b : V × PyData => b.2) = ds := snd_zip hll
  refine PySem.W.sorted_rev_data (enc := fun b : V × PyData => b.2) hl.isList e (each_reads I e) (by rw [ez]; exact hal) (by rw [ez]; exact hk) (by rw [List.length_zip]; omega) (fun b hb => ?_) fun out ho hout => sort_end I hz hll hout q
  have := hdp b.2 (by rw [← ez]; exact List.mem_map.mpr ⟨b, hb, rfl⟩)
  omega
end
def dLeS (rev : Bool) : D → D → Bool := dataLe rev D.toP
def sortD (rev : Bool) (ds : List D) : List D := ds.mergeSort (dLeS rev)
def SortOk (ds : List D) : Prop := AllAlike (ds.map D.toP) ∧ Sortable (ds.map D.toP) ∧ ∀ d ∈ ds, d.plain = true ∧ d.toP.depth ≤ 60
def dSorted (rev : Bool) : D → M D
  | .lst ds => ask (SortOk ds) (ret (.lst (sortD rev ds)))
  | _ => fail
theorem zip_zip {α β γ : Type} (f : β → γ) : ∀ (xs : List α) (ds : List β), xs.zip (ds.map f) = (xs.zip ds).map fun p => (p.1, f p.2)
  | [], _ => by simp
  | _ :: _, [] => by simp
  | x :: xs, d :: ds => by rw [List.map_cons, List.zip_cons_cons, List.zip_cons_cons, List.map_cons, zip_zip f xs ds]
theorem rep_zip {c : Ct} {r : Addr} {g : Gd} : ∀ {xs : List V} {ds : List D}, RepAll c r g xs ds → ∀ p ∈ xs.zip ds, Rep c r g p.1 p.2
  | _, _, .nil, _, h => by simp at h
  | _, _, .cons h t, p, hp => by
    rw [List.zip_cons_cons] at hp
    rcases List.mem_cons.mp hp with rfl | hp
    · exact h
    · exact rep_zip t p hp
theorem rep_of_pairs {c : Ct} {r : Addr} {g : Gd} : ∀ {ps : List (V × D)}, (∀ p ∈ ps, Rep c r g p.1 p.2) → RepAll c r g (ps.map (·.1)) (ps.map (·.2))
  | [], _ => .nil
  | p :: ps, h => .cons (h p List.mem_cons_self) (rep_of_pairs fun q hq => h q (List.mem_cons_of_mem _ hq))
theorem sort_rep {c : Ct} {r : Addr} {g : Gd} {xs : List V} {ds : List D} (rev : Bool) (h : RepAll c r g xs ds) : RepAll c r g (sortV rev xs (ds.map D.toP)) (sortD rev ds) := by
  have e1 : (xs.zip (ds.map D.toP)).mergeSort (dataLe rev fun b : V × PyData => b.2) = ((xs.zip ds).mergeSort fun p q => dLeS rev p.2 q.2).map fun p => (p.1, p.2.toP) := by
    rw [zip_zip]
    symm
    exact List.map_mergeSort (fun a _ b _ => rfl)
  have e2 : sortD rev ds = ((xs.zip ds).mergeSort fun p q => dLeS rev p.2 q.2).map (·.2) := by
    unfold sortD
    conv => lhs; rw [← snd_zip (xs := xs) h.length]
    symm
    exact List.map_mergeSort (fun a _ b _ => rfl)
  unfold sortV
  rw [e1, e2, List.map_map]
  exact rep_of_pairs fun p hp => rep_zip h p (by simpa using (List.mergeSort_perm _ _).mem_iff.mp hp)
theorem dpAll_of {c : Ct} {r : Addr} {g : Gd} {H : Hp} {xs : List V} {ds : List D} (m : le g.B H) (h : RepAll c r g xs ds) (p : ∀ d ∈ ds, d.plain = true) : DpAll c.K H xs (ds.map D.toP) := by
  rw [← D.toPs_eq]
  exact h.dp m (by rw [D.plains_eq, List.all_eq_true]; exact p)
theorem op1_sorted {c : Ct} {rev : Bool} : Op1 c .fr (on1 (rSorted c.K rev)) (dSorted rev) := by
  intro v g H W R ER Q u x o hx hf q
  cases x with
  | lst ds =>
    obtain ⟨⟨h1, h2, h3⟩, hf⟩ := hf
    obtain ⟨p, vs, rfl, z, h, k⟩ := hx.lst o
    refine ⟨p, vs, _, rfl, SqL.of h, dpAll_of o.bh k fun d hd => (h3 d hd).1, h1, h2, fun d hd => ?_, ?_⟩
    · obtain ⟨d2, hd2, rfl⟩ := List.mem_map.mp hd
      exact (h3 d2 hd2).2
    · refine q.newL o hf ?_ (sort_rep rev k)
      unfold sortV
      rw [List.length_map, List.length_mergeSort, List.length_zip]
      omega
  | _ => exact hf.elim
section
variable {X : Cx} {E : XK} {fa : Env → M D} {a : Expr} {p pos pk pk2 : Pos} {j : Nat} {b : Bool}
/-- sorted(xs, reverse=b) -/
theorem je_sortedR (hu : X.A.units + 100 < cLine) (hm : X.mg "sorted" = none) (ha : JE X E .wk a fa) (hg : Gl X "sorted" := by rfl)
    (he : backTo pos (starEach [a] X.env) = (false, eval a X.env) :: backTo pos (starEach [] X.env) := by rfl) (he2 : starEach [a] X.env = (false, eval a X.env) :: starEach [] X.env := by rfl) (hpl : (backTo pos (starEach [a] X.env)).any (·.1) = false := by rfl)
    (hall : (backToKw pos (keywordEach [⟨some ("reverse" : Str), .Constant (.bool b) j pk, pk2⟩] X.env)).all (·.1.isSome) = true := by rfl) (hnone : (backToKw pos (keywordEach [⟨some ("reverse" : Str), .Constant (.bool b) j pk, pk2⟩] X.env)).any (·.1.isNone) = false := by rfl)
    (hks : (backToKw pos (keywordEach [⟨some ("reverse" : Str), .Constant (.bool b) j pk, pk2⟩] X.env)).filterMap (·.1) = [Str.ofString "reverse"] := by rfl) :
    JE X E .fr (.Call (.Name "sorted" p) [a] [⟨some ("reverse" : Str), .Constant (.bool b) j pk, pk2⟩] pos) (e1 (dSorted b) fa) := by
  refine ⟨(pe_callBK (cr_sortedR hu (rev := b)) hg hm (by decide +kernel) (pa_cons ha.pe pa_nil he2) (pk_cons pe_bl pk_nil) (by decide) (by decide) he hpl hall hnone hks).imp fun σ H Q ⟨v, g, env, W, R, ER, o, eo, hf, x, q⟩ => ?_⟩
  exact ⟨v, g, env, W, _, ER, o, eo, hf, x, fun u d g1 H1 W1 h1 m1 o1 w1 => ⟨rfl, op1_sorted v g1 H1 W1 R ER Q u d o1 w1 h1 (q.mv m1)⟩⟩
end
/-! ### min, max of a list -/
mutual
theorem D.toP_inj : ∀ {d e : D}, d.plain = true → e.plain = true → d.toP = e.toP → d = e
  | .non, e, _, he, h => by cases e <;> simp [D.toP, D.plain] at h he ⊢
  | .bl _, e, _, he, h => by cases e <;> simp [D.toP, D.plain] at h he ⊢ <;> exact h
  | .int _, e, _, he, h => by cases e <;> simp [D.toP, D.plain] at h he ⊢ <;> exact h
  | .str _, e, _, he, h => by cases e <;> simp [D.toP, D.plain] at h he ⊢ <;> exact h
  | .lst xs, e, hd, he, h => by
    cases e with
    | lst ys =>
      simp only [D.toP, PyData.list.injEq] at h
      rw [D.toPs_inj (xs := xs) (ys := ys) hd he h]
    | _ => simp [D.toP, D.plain] at h he
  | .tup xs, e, hd, he, h => by
    cases e with
    | tup ys =>
      simp only [D.toP, PyData.tuple.injEq] at h
      rw [D.toPs_inj (xs := xs) (ys := ys) hd he h]
    | _ => simp [D.toP, D.plain] at h he
  | .dct _, _, hd, _, _ => by simp [D.plain] at hd
  | .obj _ _, _, hd, _, _ => by simp [D.plain] at hd
  | .fn _, _, hd, _, _ => by simp [D.plain] at hd
  | .row, _, hd, _, _ => by simp [D.plain] at hd
  | .mut _, _, hd, _, _ => by simp [D.plain] at hd
theorem D.toPs_inj : ∀ {xs ys : List D}, D.plains xs = true → D.plains ys = true → D.toPs xs = D.toPs ys → xs = ys
  | [], [], _, _, _ => rfl
  | [], _ :: _, _, _, h => by simp [D.toPs] at h
  | _ :: _, [], _, _, h => by simp [D.toPs] at h
  | x :: xs, y :: ys, hx, hy, h => by
    rw [D.plains, Bool.and_eq_true] at hx hy
    simp only [D.toPs, List.cons.injEq] at h
    rw [D.toP_inj hx.1 hy.1 h.1, D.toPs_inj hx.2 hy.2 h.2]
end
def minL (d : D) (ds : List D) : D := ds.foldl (fun a y => if dataLt y.toP a.toP = true then y else a) d
def maxL (d : D) (ds : List D) : D := ds.foldl (fun a y => if dataLt a.toP y.toP = true then y else a) d
theorem minL_toP : ∀ (ds : List D) (d : D), (minL d ds).toP = minD d.toP (ds.map D.toP)
  | [], _ => rfl
  | y :: ds, d => by
    show (minL (if dataLt y.toP d.toP = true then y else d) ds).toP = minD (if dataLt y.toP d.toP = true then y.toP else d.toP) (ds.map D.toP)
    rw [minL_toP ds, apply_ite D.toP]
theorem maxL_toP : ∀ (ds : List D) (d : D), (maxL d ds).toP = maxD d.toP (ds.map D.toP)
  | [], _ => rfl
  | y :: ds, d => by
    show (maxL (if dataLt d.toP y.toP = true then y else d) ds).toP = maxD (if dataLt d.toP y.toP = true then y.toP else d.toP) (ds.map D.toP)
    rw [maxL_toP ds, apply_ite D.toP]
theorem minL_mem : ∀ (ds : List D) (d : D), minL d ds ∈ d :: ds
  | [], d => List.mem_singleton.mpr rfl
  | y :: ds, d => by
    show minL (if dataLt y.toP d.toP = true then y else d) ds ∈ _
    split
    · exact List.mem_cons_of_mem _ (minL_mem ds y)
    · rcases List.mem_cons.mp (minL_mem ds d) with h | h
      · rw [h]; exact List.mem_cons_self
      · exact List.mem_cons_of_mem _ (List.mem_cons_of_mem _ h)
theorem maxL_mem : ∀ (ds : List D) (d : D), maxL d ds ∈ d :: ds
  | [], d => List.mem_singleton.mpr rfl
  | y :: ds, d => by
    show maxL (if dataLt d.toP y.toP = true then y else d) ds ∈ _
    split
    · exact List.mem_cons_of_mem _ (maxL_mem ds y)
    · rcases List.mem_cons.mp (maxL_mem ds d) with h | h
      · rw [h]; exact List.mem_cons_self
      · exact List.mem_cons_of_mem _ (List.mem_cons_of_mem _ h)
/-- what min and max ask of the data -/
def CmpOk (ds : List D) : Prop := (∀ d ∈ ds, d.okd 50 = true ∧ d ≠ .non) ∧ ∀ d ∈ ds, ∀ e ∈ ds, PySem.W.alike d.toP e.toP = true
def dMin : D → M D
  | .lst (d :: ds) => ask (CmpOk (d :: ds)) (ret (minL d ds))
  | _ => fail
def dMax : D → M D
  | .lst (d :: ds) => ask (CmpOk (d :: ds)) (ret (maxL d ds))
  | _ => fail
/-- with default=z -/
def dMinZ (z : D) : D → M D
  | .lst [] => ret z
  | .lst (d :: ds) => ask (CmpOk (d :: ds)) (ret (minL d ds))
  | _ => fail
def dMaxZ (z : D) : D → M D
  | .lst [] => ret z
  | .lst (d :: ds) => ask (CmpOk (d :: ds)) (ret (maxL d ds))
  | _ => fail
theorem CmpOk.all {ds : List D} (h : CmpOk ds) : PySem.W.AlikeAll (ds.map D.toP) := by
  refine ⟨fun x hx y hy => ?_, fun x hx => ?_⟩
  · obtain ⟨d, hd, rfl⟩ := List.mem_map.mp hx
    obtain ⟨e, he, rfl⟩ := List.mem_map.mp hy
    exact h.2 d hd e he
  · obtain ⟨d, hd, rfl⟩ := List.mem_map.mp hx
    intro z
    exact (h.1 d hd).2 (D.toP_inj (D.okd_plain 50 d (h.1 d hd).1) rfl z)
theorem depthAll_le {n : Nat} : ∀ {ds : List D}, (∀ d ∈ ds, d.okd n = true) → PyData.depthAll (ds.map D.toP) ≤ n
  | [], _ => by simp [PyData.depthAll]
  | d :: ds, h => by
    have h1 := (D.okd_lay n d (h d List.mem_cons_self)).2
    have h2 := depthAll_le (ds := ds) fun e he => h e (List.mem_cons_of_mem _ he)
    simp only [List.map_cons, PyData.depthAll]
    omega
/-- a list of such data, where the machine stands -/
structure LData (X : Cx) (c : Ct) (v : Vo) (g : Gd) (s : Shared) (a : Addr) (ds : List D) : Prop where
  ex : ∃ (vs : List V) (its : List Value) (as : List Addr), RepAll c v.rw g vs ds ∧ Vals vs its ∧ s.heap.IsList a its.toArray ∧ ReadsAll s.heap its (ds.map D.toP) as
theorem dpAll_reads {X : Cx} {pins : List (Addr × Obj)} {σ : L2.St} {H : Hp} {s : Shared} (I : L2.Inv X pins σ H s) : ∀ {xs : List V} {us : List Value} {ds : List PyData}, Vals xs us → DpAll X.K H xs ds → ∃ as, ReadsAll s.heap us ds as
  | _, _, _, .nil, .nil => ⟨_, .nil⟩
  | _, _, _, .cons r rs, .cons d dr => by
    obtain ⟨as, h1⟩ := d.reads I _ _ _ r
    obtain ⟨bs, h2⟩ := dpAll_reads I rs dr
    exact ⟨_, .cons h1 h2⟩
theorem ldata {X : Cx} {pins : List (Addr × Obj)} {σ : L2.St} {s : Shared} {v : Vo} {g : Gd} {H : Hp} {W : List MO} {u : V} {ds : List D} (I : L2.Inv X pins σ H s) (o : Ok (Cx.ct X) v g H W) (h : Wk (Cx.ct X) v g H u (.lst ds)) (p : ∀ d ∈ ds, d.plain = true) : ∃ a, u = .ref a ∧ LData X (Cx.ct X) v g s a ds := by
  obtain ⟨a, vs, rfl, z, hl, k⟩ := h.lst o
  obtain ⟨its, rv, hp, _⟩ := I.list (SqL.of hl)
  obtain ⟨as, hr⟩ := dpAll_reads I rv (dpAll_of o.bh k p)
  exact ⟨a, rfl, vs, its, as, k, rv, hp.isList, hr⟩
theorem LData.at {X : Cx} {c : Ct} {v : Vo} {g : Gd} {s : Shared} {a : Addr} {ds : List D} {vs : List V} {its : List Value} (k : RepAll c v.rw g vs ds) (rv : Vals vs its) {i : Nat} {w : Value} (hi : its[i]? = some w) : ∃ u d, RelV u w ∧ d ∈ ds ∧ ds[i]? = some d ∧ Rep c v.rw g u d := by
  obtain ⟨hlt, e⟩ := List.getElem?_eq_some_iff.mp hi
  have hl := rv.length
  have hv : vs[i]? = some vs[i] := List.getElem?_eq_getElem (by omega)
  obtain ⟨d, hd, r⟩ := k.get' hv
  obtain ⟨w2, hw, rr⟩ := rv.get hv
  rw [hi] at hw
  cases hw
  exact ⟨_, d, rr, List.mem_of_getElem? hd, hd, r⟩
theorem reads_at {h : Heap} : ∀ {vs : List Value} {ds : List PyData} {as : List Addr} {i : Nat} {v : Value} {d : PyData}, ReadsAll h vs ds as → vs[i]? = some v → ds[i]? = some d → ∃ bs, Reads h v d bs
  | _, _, _, _, _, _, .nil, e, _ => by cases e
  | _, _, _, 0, _, _, .cons r _, e, e2 => by
    simp at e e2
    subst e e2
    exact ⟨_, r⟩
  | _, _, _, i + 1, _, _, .cons _ rs, e, e2 => reads_at (i := i) rs (by simpa using e) (by simpa using e2)
/-- the machine's least is ours -/
theorem best_is {ds : List D} {b : D} {h h' : Heap} {its : List Value} {as bs : List Addr} {i : Nat} {w : Value} {d : D} (ok : CmpOk ds) (hb : b ∈ ds) (hr : ReadsAll h its (ds.map D.toP) as) (hi : its[i]? = some w) (hd : ds[i]? = some d) (r : Reads h' w b.toP bs) (hk : ∀ a o, h.get? a = some o → h'.get? a = some o) : d = b := by
  have hm : d ∈ ds := List.mem_of_getElem? hd
  have e : (ds.map D.toP)[i]? = some d.toP := by rw [List.getElem?_map, hd]; rfl
  obtain ⟨cs, r2⟩ := reads_at hr hi e
  have := ((PyProof.Rows.Reads.keeps hk r2).unique _ _ r).1
  exact D.toP_inj (D.okd_plain 50 d (ok.1 d hm).1) (D.okd_plain 50 b (ok.1 b hb).1) this
section
variable {X : Cx} {E : XK} {fa : Env → M D} {a : Expr} {p pos pk2 : Pos}
/-- a built-in of one list: by what the machine does with it -/
theorem je_blt1 {x : Str} {id : String} {F : D → M D} (hm : X.mg x = none) (hv : bootBuiltins x = some (.builtin id)) (ha : JE X E .wk a fa)
    (hF : ∀ (pins : List (Addr × Obj)) (σ : L2.St) (H : Hp) (s : Shared) (v : Vo) (g : Gd) (W : List MO) (R : D → List MO → Prop) (ER : Exn → List MO → Prop) (Q : VK) (u : V) (w : Value) (d : D), L2.Inv X pins σ H s → RelV u w → Ok (Cx.ct X) v g H W → Wk (Cx.ct X) v g H u d → F d W R ER → Cont (Cx.ct X) v .st g H R Q → wpAny (model X.prog X.w) X.A (call (.builtin id) [w]) (EP X pins σ Q) X.xe s)
    (hg : Gl X x := by rfl) (hn : x ≠ "__name__" := by decide) (hdb : (x == ("__debug__" : Str)) = false := by decide)
    (he : starEach [a] X.env = (false, eval a X.env) :: starEach [] X.env := by rfl) (hpl : (backTo pos (starEach [] X.env)).any (·.1) = false := by rfl) : JE X E .st (.Call (.Name x p) [a] [] pos) (e1 F fa) := by
  refine ⟨⟨fun pins s σ H Q I ⟨v, g, env, W, R, ER, o, eo, hf, xw, q⟩ => ?_⟩⟩
  refine wpAny_Call_Name_kw (ld_blt I hg hm hv ?_ hn hdb)
  refine PyProof.Rows.callWith_builtin1 (thn ((pa_cons ha.pe pa_nil he).run pos pins s σ H (fun vs H1 => ∃ u d g1 W1, vs = [u] ∧ Ok (Cx.ct X) v g1 H1 W1 ∧ Wk (Cx.ct X) v g1 H1 u d ∧ F d W1 R ER ∧ Cont (Cx.ct X) v .st g1 H1 R Q) I ?_) fun us s1 ⟨vs, H1, I1, r1, q1⟩ => ?_) he hpl
  · exact ⟨v, g, env, W, _, ER, o, eo, hf, xw, fun u d g1 H1 W1 h1 m1 o1 w1 => ⟨u, d, g1, W1, rfl, o1, w1, h1, q.mv m1⟩⟩
  · obtain ⟨u, d, g1, W1, rfl, o1, w1, h1, q1⟩ := q1
    obtain ⟨w, rfl, rw'⟩ := vals1 r1
    exact hF pins σ H1 s1 v g1 W1 R ER Q u w d I1 rw' o1 w1 h1 q1
theorem je_min (hu : X.A.units + 100 < cLine) (hc : X.calm = true) (hm : X.mg "min" = none) (ha : JE X E .wk a fa) (hg : Gl X "min" := by rfl)
    (he : starEach [a] X.env = (false, eval a X.env) :: starEach [] X.env := by rfl) (hpl : (backTo pos (starEach [] X.env)).any (·.1) = false := by rfl) : JE X E .st (.Call (.Name "min" p) [a] [] pos) (e1 dMin fa) := by
  refine je_blt1 (id := "min") hm (by decide +kernel) ha (fun pins σ H s v g W R ER Q u w d I rw' o hx hf q => ?_) hg (by decide) (by decide) he hpl
  cases d with
  | lst l =>
    cases l with
    | nil => exact hf.elim
    | cons d ds =>
      obtain ⟨ok, hf⟩ := hf
      obtain ⟨ad, rfl, vs, its, as, k, rv, hl, hr⟩ := ldata I o hx fun e he => D.okd_plain 50 e (ok.1 e he).1
      cases rw'
      have dp := depthAll_le fun e he => (ok.1 e he).1
      refine PySem.W.min_list_data (x := d.toP) (xs := ds.map D.toP) (as := as) (I.ok.hd hc) hl (by simpa using hr) ok.all (by simp only [List.map_cons] at dp; omega) fun i w h' tk bs hi r hk => ?_
      obtain ⟨y, e, ry, he, hei, re⟩ := LData.at (s := s) (X := X) (a := ad) k rv (i := i) (w := w) (by simpa using hi)
      rw [← minL_toP] at r
      have := best_is ok (minL_mem ds d) hr (by simpa using hi) hei r hk
      subst this
      exact ⟨y, H, I.kept (t' := tk) hk, ry, q.now o hf re⟩
  | _ => exact hf.elim
theorem je_max (hu : X.A.units + 100 < cLine) (hc : X.calm = true) (hm : X.mg "max" = none) (ha : JE X E .wk a fa) (hg : Gl X "max" := by rfl)
    (he : starEach [a] X.env = (false, eval a X.env) :: starEach [] X.env := by rfl) (hpl : (backTo pos (starEach [] X.env)).any (·.1) = false := by rfl) : JE X E .st (.Call (.Name "max" p) [a] [] pos) (e1 dMax fa) := by
  refine je_blt1 (id := "max") hm (by decide +kernel) ha (fun pins σ H s v g W R ER Q u w d I rw' o hx hf q => ?_) hg (by decide) (by decide) he hpl
  cases d with
  | lst l =>
    cases l with
    | nil => exact hf.elim
    | cons d ds =>
      obtain ⟨ok, hf⟩ := hf
      obtain ⟨ad, rfl, vs, its, as, k, rv, hl, hr⟩ := ldata I o hx fun e he => D.okd_plain 50 e (ok.1 e he).1
      cases rw'
      have dp := depthAll_le fun e he => (ok.1 e he).1
      refine PySem.W.max_list_data (x := d.toP) (xs := ds.map D.toP) (as := as) (I.ok.hd hc) hl (by simpa using hr) ok.all (by simp only [List.map_cons] at dp; omega) fun i w h' tk bs hi r hk => ?_
      obtain ⟨y, e, ry, he, hei, re⟩ := LData.at (s := s) (X := X) (a := ad) k rv (i := i) (w := w) (by simpa using hi)
      rw [← maxL_toP] at r
      have := best_is ok (maxL_mem ds d) hr (by simpa using hi) hei r hk
      subst this
      exact ⟨y, H, I.kept (t' := tk) hk, ry, q.now o hf re⟩
  | _ => exact hf.elim
/-- min(xs, default=z), z a constant -/
theorem je_kw1 {x : Str} {id : String} {kn : Str} {z : Expr} {zd : V} {F : D → M D} (hm : X.mg x = none) (hv : bootBuiltins x = some (.builtin id)) (ha : JE X E .wk a fa) (hz : PE X z (tC zd))
    (hF : ∀ (pins : List (Addr × Obj)) (σ : L2.St) (H : Hp) (s : Shared) (v : Vo) (g : Gd) (W : List MO) (R : D → List MO → Prop) (ER : Exn → List MO → Prop) (Q : VK) (u : V) (w zw : Value) (d : D), L2.Inv X pins σ H s → RelV u w → RelV zd zw → Ok (Cx.ct X) v g H W → Wk (Cx.ct X) v g H u d → F d W R ER → Cont (Cx.ct X) v .st g H R Q → wpAny (model X.prog X.w) X.A (call (.builtin id) [w] [(kn, zw)]) (EP X pins σ Q) X.xe s)
    (hg : Gl X x := by rfl) (hn : x ≠ "__name__" := by decide) (hdb : (x == ("__debug__" : Str)) = false := by decide)
    (he : backTo pos (starEach [a] X.env) = (false, eval a X.env) :: backTo pos (starEach [] X.env) := by rfl) (he2 : starEach [a] X.env = (false, eval a X.env) :: starEach [] X.env := by rfl) (hpl : (backTo pos (starEach [a] X.env)).any (·.1) = false := by rfl)
    (hall : (backToKw pos (keywordEach [⟨some kn, z, pk2⟩] X.env)).all (·.1.isSome) = true := by rfl) (hnone : (backToKw pos (keywordEach [⟨some kn, z, pk2⟩] X.env)).any (·.1.isNone) = false := by rfl) (hks : (backToKw pos (keywordEach [⟨some kn, z, pk2⟩] X.env)).filterMap (·.1) = [kn] := by rfl) :
    JE X E .st (.Call (.Name x p) [a] [⟨some kn, z, pk2⟩] pos) (e1 F fa) := by
  refine ⟨⟨fun pins s σ H Q I ⟨v, g, env, W, R, ER, o, eo, hf, xw, q⟩ => ?_⟩⟩
  refine wpAny_Call_Name_kw (ld_blt I hg hm hv ?_ hn hdb)
  refine PyProof.Rows.callWith_kw (thn ((pa_cons ha.pe pa_nil he2).run pos pins s σ H (fun vs H1 => ∃ u d g1 W1, vs = [u] ∧ Ok (Cx.ct X) v g1 H1 W1 ∧ Wk (Cx.ct X) v g1 H1 u d ∧ F d W1 R ER ∧ Cont (Cx.ct X) v .st g1 H1 R Q) I ?_) fun us s1 ⟨vs, H1, I1, r1, q1⟩ =>
    thn ((pk_cons hz pk_nil).run pos pins s1 σ H1 (fun zs H2 => zs = [zd] ∧ H2 = H1) I1 ⟨rfl, rfl⟩) fun ws s2 ⟨zs, H2, I2, r2, ez, eH⟩ => ?_) he hpl hall hnone
  · exact ⟨v, g, env, W, _, ER, o, eo, hf, xw, fun u d g1 H1 W1 h1 m1 o1 w1 => ⟨u, d, g1, W1, rfl, o1, w1, h1, q.mv m1⟩⟩
  · subst ez eH
    obtain ⟨u, d, g1, W1, rfl, o1, w1, h1, q1⟩ := q1
    obtain ⟨w, rfl, rw'⟩ := vals1 r1
    obtain ⟨zw, rfl, rz⟩ := vals1 r2
    rw [hks]
    exact hF pins σ _ s2 v g1 W1 R ER Q u w zw d I2 rw' rz o1 w1 h1 q1
theorem je_minZ {z : Expr} {zd : V} {zD : D} (hu : X.A.units + 100 < cLine) (hc : X.calm = true) (hm : X.mg "min" = none) (ha : JE X E .wk a fa) (hz : PE X z (tC zd)) (rz : ∀ v g, Rep (Cx.ct X) v g zd zD) (hg : Gl X "min" := by rfl)
    (he : backTo pos (starEach [a] X.env) = (false, eval a X.env) :: backTo pos (starEach [] X.env) := by rfl) (he2 : starEach [a] X.env = (false, eval a X.env) :: starEach [] X.env := by rfl) (hpl : (backTo pos (starEach [a] X.env)).any (·.1) = false := by rfl)
    (hall : (backToKw pos (keywordEach [⟨some ("default" : Str), z, pk2⟩] X.env)).all (·.1.isSome) = true := by rfl) (hnone : (backToKw pos (keywordEach [⟨some ("default" : Str), z, pk2⟩] X.env)).any (·.1.isNone) = false := by rfl) (hks : (backToKw pos (keywordEach [⟨some ("default" : Str), z, pk2⟩] X.env)).filterMap (·.1) = [("default" : Str)] := by rfl) :
    JE X E .st (.Call (.Name "min" p) [a] [⟨some ("default" : Str), z, pk2⟩] pos) (e1 (dMinZ zD) fa) := by
  refine je_kw1 (id := "min") hm (by decide +kernel) ha hz (fun pins σ H s v g W R ER Q u w zw d I rw' rzw o hx hf q => ?_) hg (by decide) (by decide) he he2 hpl hall hnone hks
  cases d with
  | lst l =>
    have fin : ∀ (ok : CmpOk l), (∀ (y : D) (ys : List D), l = y :: ys → R (minL y ys) W) → (l = [] → R zD W) → wpAny (model X.prog X.w) X.A (call (.builtin "min") [w] [(("default" : Str), zw)]) (EP X pins σ Q) X.xe s := fun ok h1 h0 => by
      obtain ⟨ad, rfl, vs, its, as, k, rv, hl, hr⟩ := ldata I o hx fun e he => D.okd_plain 50 e (ok.1 e he).1
      cases rw'
      have dp := depthAll_le fun e he => (ok.1 e he).1
      refine PySem.W.min_list_default (xs := l.map D.toP) (as := as) (I.ok.hd hc) hl (by simpa using hr) ok.all (by omega) (fun e h' tk hk => ?_) fun y ys i w h' tk bs ey hi r hk => ?_
      · exact ⟨zd, H, I.kept (t' := tk) hk, rzw, q.now o (h0 (by simpa using e)) (rz _ _)⟩
      · cases l with
        | nil => cases ey
        | cons d ds =>
          obtain ⟨e1, e2⟩ := List.cons.inj ey
          subst e1 e2
          obtain ⟨y, e, ry, he, hei, re⟩ := LData.at (s := s) (X := X) (a := ad) k rv (i := i) (w := w) (by simpa using hi)
          rw [← minL_toP] at r
          have := best_is ok (minL_mem ds d) hr (by simpa using hi) hei r hk
          subst this
          exact ⟨y, H, I.kept (t' := tk) hk, ry, q.now o (h1 d ds rfl) re⟩
    cases l with
    | nil => exact fin ⟨fun d hd => by simp at hd, fun d hd => by simp at hd⟩ (fun _ _ e => by cases e) fun _ => hf
    | cons d ds => exact fin hf.1 (fun y ys e => by cases e; exact hf.2) fun e => by cases e
  | _ => exact hf.elim
theorem je_maxZ {z : Expr} {zd : V} {zD : D} (hu : X.A.units + 100 < cLine) (hc : X.calm = true) (hm : X.mg "max" = none) (ha : JE X E .wk a fa) (hz : PE X z (tC zd)) (rz : ∀ v g, Rep (Cx.ct X) v g zd zD) (hg : Gl X "max" := by rfl)
    (he : backTo pos (starEach [a] X.env) = (false, eval a X.env) :: backTo pos (starEach [] X.env) := by rfl) (he2 : starEach [a] X.env = (false, eval a X.env) :: starEach [] X.env := by rfl) (hpl : (backTo pos (starEach [a] X.env)).any (·.1) = false := by rfl)
    (hall : (backToKw pos (keywordEach [⟨some ("default" : Str), z, pk2⟩] X.env)).all (·.1.isSome) = true := by rfl) (hnone : (backToKw pos (keywordEach [⟨some ("default" : Str), z, pk2⟩] X.env)).any (·.1.isNone) = false := by rfl) (hks : (backToKw pos (keywordEach [⟨some ("default" : Str), z, pk2⟩] X.env)).filterMap (·.1) = [("default" : Str)] := by rfl) :
    JE X E .st (.Call (.Name "max" p) [a] [⟨some ("default" : Str), z, pk2⟩] pos) (e1 (dMaxZ zD) fa) := by
  refine je_kw1 (id := "max") hm (by decide +kernel) ha hz (fun pins σ H s v g W R ER Q u w zw d I rw' rzw o hx hf q => ?_) hg (by decide) (by decide) he he2 hpl hall hnone hks
  cases d with
  | lst l =>
    have fin : ∀ (ok : CmpOk l), (∀ (y : D) (ys : List D), l = y :: ys → R (maxL y ys) W) → (l = [] → R zD W) → wpAny (model X.prog X.w) X.A (call (.builtin "max") [w] [(("default" : Str), zw)]) (EP X pins σ Q) X.xe s := fun ok h1 h0 => by
      obtain ⟨ad, rfl, vs, its, as, k, rv, hl, hr⟩ := ldata I o hx fun e he => D.okd_plain 50 e (ok.1 e he).1
      cases rw'
      have dp := depthAll_le fun e he => (ok.1 e he).1
      refine PySem.W.max_list_default (xs := l.map D.toP) (as := as) (I.ok.hd hc) hl (by simpa using hr) ok.all (by omega) (fun e h' tk hk => ?_) fun y ys i w h' tk bs ey hi r hk => ?_
      · exact ⟨zd, H, I.kept (t' := tk) hk, rzw, q.now o (h0 (by simpa using e)) (rz _ _)⟩
      · cases l with
        | nil => cases ey
        | cons d ds =>
          obtain ⟨e1, e2⟩ := List.cons.inj ey
          subst e1 e2
          obtain ⟨y, e, ry, he, hei, re⟩ := LData.at (s := s) (X := X) (a := ad) k rv (i := i) (w := w) (by simpa using hi)
          rw [← maxL_toP] at r
          have := best_is ok (maxL_mem ds d) hr (by simpa using hi) hei r hk
          subst this
          exact ⟨y, H, I.kept (t' := tk) hk, ry, q.now o (h1 d ds rfl) re⟩
    cases l with
    | nil => exact fin ⟨fun d hd => by simp at hd, fun d hd => by simp at hd⟩ (fun _ _ e => by cases e) fun _ => hf
    | cons d ds => exact fin hf.1 (fun y ys e => by cases e; exact hf.2) fun e => by cases e
  | _ => exact hf.elim
end
end Y

set_option maxRecDepth 100000
set_option maxHeartbeats 2000000
namespace Y
open PySem PySem.Spec PyProof.Rows L2

/-! ### several names from several expressions -/
section
variable {c : Ct} {v : Vo} {g0 g g1 : Gd} {H0 H H1 : Hp} {W W1 : List MO} {σ : L2.St} {env : Env}
/-- a slot is given a thing of one's own that no other slot holds -/
theorem At.put1 (b : At c v g0 H0 g1 σ H1 env W1) {i : Nat} {u : V} {d : D} (w : Own c v g1 H1 u d) (ne : ∀ (j : Nat) (d1 : D) (q : Addr), j ≠ i → env[j]? = some (.o d1) → σ[j]? = some (some (.ref q)) → u ≠ .ref q) (n : ∀ p, u = .ref p → ¬ Old H0 p) :
    At c v g0 H0 g1 (σ.set i (some u)) H1 (env.set i (.o d)) W1 := by
  have isr : ∀ (j : Nat) (d1 : D), env[j]? = some (.o d1) → ∀ w, σ[j]? = some (some w) → ∃ q, w = .ref q := fun j d1 e w e1 => by
    obtain ⟨q', e2, _⟩ := b.ownd e
    rw [e1] at e2
    cases e2
    exact ⟨q', rfl⟩
  by_cases hl : i < env.length
  · have hs : i < σ.length := by rw [b.eo.len]; exact hl
    refine ⟨b.gr, b.ok, ⟨by rw [List.length_set, List.length_set]; exact b.eo.len, fun j s q => ?_, fun j k d1 d2 w' q1 q2 q3 q4 => ?_⟩, fun j d1 q q1 q2 => ?_⟩
    · by_cases z : i = j
      · subst z
        rw [List.getElem?_set_self hl] at q
        cases q
        exact ⟨u, by rw [List.getElem?_set_self hs], w⟩
      · rw [List.getElem?_set_ne z] at q ⊢
        exact b.eo.sl j s q
    · by_cases z : i = j
      · by_cases z2 : i = k
        · rw [← z, ← z2]
        · exfalso
          rw [← z, List.getElem?_set_self hs] at q3
          cases q3
          rw [List.getElem?_set_ne z2] at q2 q4
          obtain ⟨q, rfl⟩ := isr k d2 q2 _ q4
          exact ne k d2 q (fun y => z2 y.symm) q2 q4 rfl
      · rw [List.getElem?_set_ne z] at q1 q3
        by_cases z2 : i = k
        · exfalso
          rw [← z2, List.getElem?_set_self hs] at q4
          cases q4
          obtain ⟨q, rfl⟩ := isr j d1 q1 _ q3
          exact ne j d1 q (fun y => z y.symm) q1 q3 rfl
        · rw [List.getElem?_set_ne z2] at q2 q4
          exact b.eo.ap j k d1 d2 w' q1 q2 q3 q4
    · by_cases z : i = j
      · rw [← z, List.getElem?_set_self hs] at q2
        cases q2
        exact n q rfl
      · rw [List.getElem?_set_ne z] at q1 q2
        exact b.new j d1 q q1 q2
  · have e1 : env.set i (.o d) = env := List.set_eq_of_length_le (by omega)
    have e2 : σ.set i (some u) = σ := List.set_eq_of_length_le (by rw [b.eo.len]; omega)
    rw [e1, e2]
    exact b
/-- a slot is given a strong value -/
theorem At.putS (b : At c v g0 H0 g1 σ H1 env W1) {i : Nat} {u : V} {d : D} (r : Rep c v.rw g1 u d) : At c v g0 H0 g1 (σ.set i (some u)) H1 (env.set i (.v d)) W1 := by
  refine ⟨b.gr, b.ok, b.eo.set r, fun j d1 q q1 q2 => ?_⟩
  by_cases z : i = j
  · subst z
    by_cases hl : i < env.length
    · rw [List.getElem?_set_self hl] at q1
      cases q1
    · rw [List.getElem?_eq_none (by rw [List.length_set]; omega)] at q1
      cases q1
  · rw [List.getElem?_set_ne z] at q1 q2
    exact b.new j d1 q q1 q2
/-- values of which some are new things: own tells which; H: the heap ahead of them all -/
def Mix (c : Ct) (v : Vo) (H : Hp) (g' : Gd) (H' : Hp) : List Bool → List V → List D → Prop
  | [], [], [] => True
  | true :: ks, u :: us, d :: ds => Own c v g' H' u d ∧ (∀ p, u = .ref p → ¬ Old H p) ∧ (∀ (j : Nat) (w : V), ks[j]? = some true → us[j]? = some w → w ≠ u) ∧ Mix c v H g' H' ks us ds
  | false :: ks, u :: us, d :: ds => Rep c v.rw g' u d ∧ Mix c v H g' H' ks us ds
  | _, _, _ => False
def giveE : List Nat → List Bool → List D → Env → Env
  | i :: is, true :: ks, d :: ds, env => giveE is ks ds (env.set i (.o d))
  | i :: is, false :: ks, d :: ds, env => giveE is ks ds (env.set i (.v d))
  | _, _, _, env => env
def giveS : List Nat → List V → L2.St → L2.St
  | i :: is, u :: us, σ => giveS is us (σ.set i (some u))
  | _, _, σ => σ
theorem At.gives (Hn : Hp) (hn : ∀ p, Old H0 p → Old Hn p) : ∀ {is : List Nat} {ks : List Bool} {us : List V} {ds : List D} {σ : L2.St} {env : Env}, is.length = ks.length → At c v g0 H0 g1 σ H1 env W1 →
    (∀ (j : Nat) (d1 : D) (q : Addr), env[j]? = some (.o d1) → σ[j]? = some (some (.ref q)) → Old Hn q ∨ ∀ (k : Nat) (w : V), ks[k]? = some true → us[k]? = some w → w ≠ .ref q) → Mix c v Hn g1 H1 ks us ds → At c v g0 H0 g1 (giveS is us σ) H1 (giveE is ks ds env) W1
  | [], [], [], [], _, _, _, b, _, _ => b
  | i :: is, true :: ks, u :: us, d :: ds, σ, env, hl, b, hq, ⟨w, n, ne, r⟩ => by
    refine At.gives Hn hn (is := is) (by simpa using hl) (b.put1 w (fun j d1 q _ q1 q2 => ?_) fun p e z => n p e (hn p z)) (fun j d1 q q1 q2 => ?_) r
    · rcases hq j d1 q q1 q2 with z | z
      · exact fun e => n q e z
      · exact z 0 u rfl rfl
    · by_cases z : i = j
      · subst z
        by_cases hl2 : i < env.length
        · rw [List.getElem?_set_self (by rw [b.eo.len]; exact hl2)] at q2
          cases q2
          exact .inr fun k w' h1 h2 e => ne k w' h1 h2 e
        · rw [List.getElem?_eq_none (by rw [List.length_set]; omega)] at q1
          cases q1
      · rw [List.getElem?_set_ne z] at q1 q2
        rcases hq j d1 q q1 q2 with z2 | z2
        · exact .inl z2
        · exact .inr fun k w' h1 h2 => z2 (k + 1) w' h1 h2
  | i :: is, false :: ks, u :: us, d :: ds, σ, env, hl, b, hq, ⟨r0, r⟩ => by
    refine At.gives Hn hn (is := is) (by simpa using hl) (b.putS r0) (fun j d1 q q1 q2 => ?_) r
    by_cases z : i = j
    · subst z
      by_cases hl2 : i < env.length
      · rw [List.getElem?_set_self hl2] at q1
        cases q1
      · rw [List.getElem?_eq_none (by rw [List.length_set]; omega)] at q1
        cases q1
    · rw [List.getElem?_set_ne z] at q1 q2
      rcases hq j d1 q q1 q2 with z2 | z2
      · exact .inl z2
      · exact .inr fun k w' h1 h2 => z2 (k + 1) w' h1 h2
  | [], [], [], _ :: _, _, _, _, _, _, h => h.elim
  | [], [], _ :: _, _, _, _, _, _, _, h => h.elim
  | [], _ :: _, _, _, _, _, hl, _, _, _ => by simp at hl
  | _ :: _, [], _, _, _, _, hl, _, _, _ => by simp at hl
  | _ :: _, true :: _, [], _, _, _, _, _, _, h => h.elim
  | _ :: _, true :: _, _ :: _, [], _, _, _, _, _, h => h.elim
  | _ :: _, false :: _, [], _, _, _, _, _, _, h => h.elim
  | _ :: _, false :: _, _ :: _, [], _, _, _, _, _, h => h.elim
theorem Mix.mono {g' g2 : Gd} {H' H2 : Hp} (m : Gr v g' H' g2 H2) : ∀ {ks : List Bool} {us : List V} {ds : List D}, Mix c v H g' H' ks us ds → Mix c v H g2 H2 ks us ds
  | [], [], [], _ => True.intro
  | true :: _, _ :: _, _ :: _, ⟨a, b, d, e⟩ => ⟨a.mono m, b, d, Mix.mono m e⟩
  | false :: _, _ :: _, _ :: _, ⟨a, e⟩ => ⟨a.mono m.le, Mix.mono m e⟩
  | [], [], _ :: _, h => h.elim
  | [], _ :: _, _, h => h.elim
  | true :: _, [], _, h => h.elim
  | true :: _, _ :: _, [], h => h.elim
  | false :: _, [], _, h => h.elim
  | false :: _, _ :: _, [], h => h.elim
theorem Mix.weak {H2 : Hp} (h : ∀ p, Old H p → Old H2 p) {g' : Gd} {H' : Hp} : ∀ {ks : List Bool} {us : List V} {ds : List D}, Mix c v H2 g' H' ks us ds → Mix c v H g' H' ks us ds
  | [], [], [], _ => True.intro
  | true :: _, _ :: _, _ :: _, ⟨a, b, d, e⟩ => ⟨a, fun p q z => b p q (h p z), d, Mix.weak h e⟩
  | false :: _, _ :: _, _ :: _, ⟨a, e⟩ => ⟨a, Mix.weak h e⟩
  | [], [], _ :: _, h => h.elim
  | [], _ :: _, _, h => h.elim
  | true :: _, [], _, h => h.elim
  | true :: _, _ :: _, [], h => h.elim
  | false :: _, [], _, h => h.elim
  | false :: _, _ :: _, [], h => h.elim
theorem Mix.fresh {g' : Gd} {H' : Hp} : ∀ {ks : List Bool} {us : List V} {ds : List D} {j : Nat} {w : V}, Mix c v H g' H' ks us ds → ks[j]? = some true → us[j]? = some w → ∀ p, w = .ref p → ¬ Old H p
  | true :: _, _ :: _, _ :: _, 0, _, ⟨_, b, _, _⟩, _, e => by
    cases e
    exact b
  | true :: _, _ :: _, _ :: _, j + 1, _, ⟨_, _, _, r⟩, h, e => Mix.fresh (j := j) r h e
  | false :: _, _ :: _, _ :: _, 0, _, _, h, _ => by cases h
  | false :: _, _ :: _, _ :: _, j + 1, _, ⟨_, r⟩, h, e => Mix.fresh (j := j) r h e
  | [], _, _, _, _, _, h, _ => by simp at h
  | _ :: _, [], _, _, _, _, _, e => by simp at e
  | true :: _, _ :: _, [], _, _, h, _, _ => h.elim
  | false :: _, _ :: _, [], _, _, h, _, _ => h.elim
theorem Mix.len {g' : Gd} {H' : Hp} : ∀ {ks : List Bool} {us : List V} {ds : List D}, Mix c v H g' H' ks us ds → us.length = ks.length ∧ ds.length = ks.length
  | [], [], [], _ => ⟨rfl, rfl⟩
  | true :: _, _ :: _, _ :: _, ⟨_, _, _, r⟩ => ⟨by simp [r.len.1], by simp [r.len.2]⟩
  | false :: _, _ :: _, _ :: _, ⟨_, r⟩ => ⟨by simp [r.len.1], by simp [r.len.2]⟩
  | [], [], _ :: _, h => h.elim
  | [], _ :: _, _, h => h.elim
  | true :: _, [], _, h => h.elim
  | true :: _, _ :: _, [], h => h.elim
  | false :: _, [], _, h => h.elim
  | false :: _, _ :: _, [], h => h.elim
end
/-- expressions of which some are new things -/
def tLm (c : Ct) (E : XK) (ks : List Bool) (f : Env → M (List D)) : TA := fun σ H Q => ∃ v g env W R ER, Ok c v g H W ∧ EnvOk c v g H σ env ∧ f env W R ER ∧ XW c v g H E ER ∧ ∀ us ds g' H' W', R ds W' → Gr v g H g' H' → Ok c v g' H' W' → Mix c v H g' H' ks us ds → Q us H'
structure JAm (X : Cx) (E : XK) (ks : List Bool) (es : List Expr) (f : Env → M (List D)) : Prop where
  pa : PA X es (tLm (Cx.ct X) E ks f)
section
variable {X : Cx} {E : XK} {e : Expr} {es : List Expr} {ks : List Bool} {fa : Env → M D} {fr : Env → M (List D)} {pos pt pt2 px py pz : Pos} {kt k2 : Nat}
theorem jam_nil : JAm X E [] [] aNil := ⟨pa_nil.imp fun σ H Q ⟨v, g, env, W, R, ER, o, eo, hf, x, q⟩ => q [] [] g H W hf (Gr.refl v g H) o True.intro⟩
theorem jam_st (ha : JE X E .st e fa) (hr : JAm X E ks es fr) (hs : starEach (e :: es) X.env = (false, eval e X.env) :: starEach es X.env := by rfl) : JAm X E (false :: ks) (e :: es) (aCons fa fr) :=
  ⟨(pa_cons ha.pe hr.pa hs).imp fun σ H Q ⟨v, g, env, W, R, ER, o, eo, hf, x, q⟩ => ⟨v, g, env, W, _, ER, o, eo, hf, x, fun u d g1 H1 W1 h1 m1 o1 w1 =>
    ⟨v, g1, env, W1, _, ER, o1, eo.mono m1, h1, x.mv m1, fun us ds g2 H2 W2 h2 m2 o2 w2 => q (u :: us) (d :: ds) g2 H2 W2 h2 (m1.trans m2) o2 ⟨w1.mono m2.le, Mix.weak (fun p z => m1.dom p z) w2⟩⟩⟩⟩
theorem jam_own {k : Kd} (ha : JE X E k e fa) (hr : JAm X E ks es fr) (hk : k = .fr ∨ k = .fk := by first | exact Or.inl rfl | exact Or.inr rfl) (hs : starEach (e :: es) X.env = (false, eval e X.env) :: starEach es X.env := by rfl) : JAm X E (true :: ks) (e :: es) (aCons fa fr) :=
  ⟨(pa_cons ha.pe hr.pa hs).imp fun σ H Q ⟨v, g, env, W, R, ER, o, eo, hf, x, q⟩ => ⟨v, g, env, W, _, ER, o, eo, hf, x, fun u d g1 H1 W1 h1 m1 o1 w1 => by
    have z : Own (Cx.ct X) v g1 H1 u d ∧ ∀ p, u = .ref p → ¬ Old H p := by
      rcases hk with rfl | rfl
      · exact w1.1
      · exact w1.1
    refine ⟨v, g1, env, W1, _, ER, o1, eo.mono m1, h1, x.mv m1, fun us ds g2 H2 W2 h2 m2 o2 w2 => q (u :: us) (d :: ds) g2 H2 W2 h2 (m1.trans m2) o2 ⟨z.1.mono m2, z.2, fun j w h3 h4 e => ?_, Mix.weak (fun p z => m1.dom p z) w2⟩⟩
    obtain ⟨p, eu, _, _, _, ow⟩ := z.1
    exact w2.fresh h3 h4 p (e.trans eu) ow.old⟩⟩
def sMulti (is : List Nat) (ks : List Bool) (f : Env → M (List D)) : SM := fun env W K => f env W (fun ds W' => K.nx (giveE is ks ds env) W') K.ex
theorem multi_at {c : Ct} {v : Vo} {g0 g g1 : Gd} {H0 H H1 : Hp} {W W1 : List MO} {σ : L2.St} {env : Env} {is : List Nat} {us : List V} {ds : List D} (a : At c v g0 H0 g σ H env W) (m : Gr v g H g1 H1) (o : Ok c v g1 H1 W1) (hl : is.length = ks.length) (w : Mix c v H g1 H1 ks us ds) :
    At c v g0 H0 g1 (giveS is us σ) H1 (giveE is ks ds env) W1 := by
  refine At.gives H (fun p z => a.gr.dom p z) hl (a.on m o) (fun j d1 q q1 q2 => .inl ?_) w
  obtain ⟨q', e2, _, _, _, h4, _⟩ := a.ownd q1
  rw [q2] at e2
  cases e2
  exact h4.old
/-- a, b = e1, e2 -/
theorem js_par (i j : Nat) {x y : Str} {e e' : Expr} {ks : List Bool} {fs : Env → M (List D)} (hc : X.calm = true) (hN : X.N.Nodup) (ha : JAm X E ks [e, e'] fs) (hk : ks.length = 2 := by rfl) (hi : X.N[i]? = some x := by rfl) (hj : X.N[j]? = some y := by rfl) (hij : i ≠ j := by decide)
    (lx : X.env.scope.names.lookup x = some .local := by rfl) (ly : X.env.scope.names.lookup y = some .local := by rfl) (hw : swappedStores [.Tuple [.Name x px, .Name y py] kt pt] (.Tuple [e, e'] k2 pt2) X.env = pure (some [x, y]) := by rfl)
    (hs : swapsWithSole [.Tuple [.Name x px, .Name y py] kt pt] (.Tuple [e, e'] k2 pt2) pos.line X.env = pure false := by rfl) : JS X E (.Assign [.Tuple [.Name x px, .Name y py] kt pt] (.Tuple [e, e'] k2 pt2) pos) (sMulti [i, j] ks fs) :=
  ⟨(ps_par hc hN hi hj hij lx ly ha.pa hw hs).imp fun Dn σ H ⟨v, g0, H0, g, env, W, K, a, hs, xw, n, r, b, ct⟩ => ⟨v, g, env, W, _, _, a.ok, a.eo, hs, xw.mv a.gr, fun us ds g1 H1 W1 h1 m1 o1 w1 => by
    have hl := w1.len.1
    rw [hk] at hl
    match us, hl with
    | [u, w], _ => exact ⟨u, w, rfl, n _ _ g1 H1 W1 h1 m1.le (multi_at (is := [i, j]) a m1 o1 (by rw [hk]; rfl) w1)⟩⟩⟩
theorem js_par3 (i j l : Nat) {x y z : Str} {e e' e'' : Expr} {ks : List Bool} {fs : Env → M (List D)} (hc : X.calm = true) (hN : X.N.Nodup) (ha : JAm X E ks [e, e', e''] fs) (hk : ks.length = 3 := by rfl) (hi : X.N[i]? = some x := by rfl) (hj : X.N[j]? = some y := by rfl) (hl : X.N[l]? = some z := by rfl) (hij : i ≠ j := by decide) (hil : i ≠ l := by decide) (hjl : j ≠ l := by decide)
    (lx : X.env.scope.names.lookup x = some .local := by rfl) (ly : X.env.scope.names.lookup y = some .local := by rfl) (lz : X.env.scope.names.lookup z = some .local := by rfl) (hw : swappedStores [.Tuple [.Name x px, .Name y py, .Name z pz] kt pt] (.Tuple [e, e', e''] k2 pt2) X.env = pure (some [x, y, z]) := by rfl)
    (hs : swapsWithSole [.Tuple [.Name x px, .Name y py, .Name z pz] kt pt] (.Tuple [e, e', e''] k2 pt2) pos.line X.env = pure false := by rfl) : JS X E (.Assign [.Tuple [.Name x px, .Name y py, .Name z pz] kt pt] (.Tuple [e, e', e''] k2 pt2) pos) (sMulti [i, j, l] ks fs) :=
  ⟨(ps_par3 hc hN hi hj hl hij hil hjl lx ly lz ha.pa hw hs).imp fun Dn σ H ⟨v, g0, H0, g, env, W, K, a, hs, xw, n, r, b, ct⟩ => ⟨v, g, env, W, _, _, a.ok, a.eo, hs, xw.mv a.gr, fun us ds g1 H1 W1 h1 m1 o1 w1 => by
    have hl := w1.len.1
    rw [hk] at hl
    match us, hl with
    | [u, w, y], _ => exact ⟨u, w, y, rfl, n _ _ g1 H1 W1 h1 m1.le (multi_at (is := [i, j, l]) a m1 o1 (by rw [hk]; rfl) w1)⟩⟩⟩
/-- targets: names alone -/
inductive NT (X : Cx) : List Expr → List Nat → Prop
  | nil : NT X [] []
  | cons {x : Str} {px : Pos} {i : Nat} {es : List Expr} {is : List Nat} (hi : X.N[i]? = some x) (hx : Loc X.env.scope x) (hf : X.fn x = true ∨ X.env.scope.names.lookup x = some .local) (hs : (assignEach (.Name x px :: es) X.env).map (·.2) = assign (.Name x px) X.env :: (assignEach es X.env).map (·.2)) (t : NT X es is) : NT X (.Name x px :: es) (i :: is)
theorem nt_cons (i : Nat) {x : Str} {px : Pos} {es : List Expr} {is : List Nat} (t : NT X es is) (hi : X.N[i]? = some x := by rfl) (hx : Loc X.env.scope x := by first | exact Or.inl rfl | exact Or.inr rfl) (hf : X.fn x = true ∨ X.env.scope.names.lookup x = some .local := by first | exact Or.inl rfl | exact Or.inr rfl)
    (hs : (assignEach (.Name x px :: es) X.env).map (·.2) = assign (.Name x px) X.env :: (assignEach es X.env).map (·.2) := by rfl) : NT X (.Name x px :: es) (i :: is) := .cons hi hx hf hs t
def gGive (is : List Nat) : TGs := fun us σ H Q => us.length = is.length ∧ Q (giveS is us σ) H
theorem NT.pgs {hN : X.N.Nodup} : ∀ {es : List Expr} {is : List Nat}, NT X es is → PGs X es (gGive is)
  | _, _, .nil => pgs_nil.imp fun us σ H Q ⟨h1, h2⟩ => by
    cases us with
    | nil => exact ⟨rfl, h2⟩
    | cons _ _ => simp at h1
  | _, _, .cons hi hx hf hs t => (pgs_cons (pg_name hN hi hx hf) (NT.pgs (hN := hN) t) hs).imp fun us σ H Q ⟨h1, h2⟩ => by
    cases us with
    | nil => simp at h1
    | cons u us => exact ⟨u, us, rfl, by simpa using h1, h2⟩
/-- a, b, c, d = e1, e2, e3, e4, by a tuple -/
theorem js_multi {tgs : List Expr} {is : List Nat} {ks : List Bool} {fs : Env → M (List D)} (hc : X.calm = true) (hN : X.N.Nodup) (ha : JAm X E ks es fs) (ht : NT X tgs is) (hk : is.length = ks.length := by rfl) (hsm : ks.length ≤ 1000 := by decide)
    (hn : (assignEach tgs X.env).length = ks.length := by rfl) (hst : (assignEach tgs X.env).findIdx? (·.1) = none := by rfl) (hs : swapsWithSole [.Tuple tgs kt pt] (.Tuple es k2 pt2) pos.line X.env = pure false := by rfl) (hw : swappedStores [.Tuple tgs kt pt] (.Tuple es k2 pt2) X.env = pure none := by rfl)
    (h1 : (assignEach [.Tuple tgs kt pt] X.env).map (·.2) = [assign (.Tuple tgs kt pt) X.env] := by rfl) : JS X E (.Assign [.Tuple tgs kt pt] (.Tuple es k2 pt2) pos) (sMulti is ks fs) :=
  ⟨(ps_asg (pe_tup ha.pa) (pg_tup hc (ht.pgs (hN := hN)) hn hst) hs hw h1).imp fun Dn σ H ⟨v, g0, H0, g, env, W, K, a, hs, xw, n, r, b, ct⟩ => ⟨v, g, env, W, _, _, a.ok, a.eo, hs, xw.mv a.gr, fun us ds g1 H1 W1 h1 m1 o1 w1 => by
    have hl := w1.len.1
    refine ⟨by rw [hl]; exact small _ hsm, fun p hp => ?_⟩
    obtain ⟨o2, m2⟩ := o1.alloc hp (.tup us)
    exact ⟨p, us, rfl, SqT.of upd_same, hl, by rw [hl, hk], n _ _ g1 _ W1 h1 m1.le (multi_at a (m1.trans m2) o2 hk (Mix.mono m2 w1))⟩⟩⟩
end
/-! ### xs[::-1], tuple(range(n)), xs.index(y), xs.count(n) -/
section
variable {X : Cx} {E : XK} {a b : Expr} {fa fb : Env → M D} {p pos p1 p2 p3 apos : Pos} {k : Nat}
def dRev : D → M D
  | .lst xs => ret (.lst xs.reverse)
  | _ => fail
theorem je_rev (ha : JE X E .wk a fa) : JE X E .fr (.Subscript a (.Slice none none (some (.UnaryOp .USub (.Constant (.int 1) k p1) p2)) p3) pos) (e1 dRev fa) :=
  ⟨(pe_revL ha.pe).imp fun σ H Q ⟨v, g, env, W, R, ER, o, eo, hf, x, q⟩ => ⟨v, g, env, W, _, ER, o, eo, hf, x, fun u d g1 H1 W1 h1 m1 o1 w1 => by
    cases d with
    | lst ds =>
      obtain ⟨q1, vs, rfl, z, h, kk⟩ := Wk.lst o1 w1
      exact ⟨q1, vs, rfl, SqL.of h, (q.mv m1).newL o1 h1 (by rw [List.length_reverse]; exact z) kk.reverse⟩
    | _ => exact h1.elim⟩⟩
def dTupRg : D → M D
  | .int n => ask (0 ≤ n ∧ n ≤ 16777216) (ret (.tup (rangeD 0 n.toNat)))
  | _ => fail
theorem rep_range {c : Ct} {r : Addr} {g : Gd} (n : Int) : RepAll c r g (rgV 0 n) (rangeD 0 n.toNat) := by
  have key : ∀ m : Nat, RepAll c r g ((List.range m).map fun (i : Nat) => V.int (0 + (i : Int))) (rangeD 0 m) := fun m => by
    have e1 : ((List.range m).map fun (i : Nat) => V.int (0 + (i : Int))) = ((List.range m).map fun (i : Nat) => (0 + (i : Int))).map V.int := by rw [List.map_map]; rfl
    have e2 : rangeD 0 m = ((List.range m).map fun (i : Nat) => (0 + (i : Int))).map D.int := by unfold rangeD; rw [List.map_map]; rfl
    rw [e1, e2]
    exact RepAll.ofInts _
  unfold rgV
  rw [show (n - 0).toNat = n.toNat by omega]
  exact key _
theorem je_tupRg (hc : X.calm = true) (hm : X.mg "tuple" = none) (hm2 : X.mg "range" = none) (ha : JE X E .st a fa) (hg : Gl X "tuple" := by rfl) (hg2 : Gl X "range" := by rfl) (na : starEach [a] X.env = (false, eval a X.env) :: starEach [] X.env := by rfl)
    (na2 : starEach [.Call (.Name "range" p1) [a] [] p2] X.env = (false, eval (.Call (.Name "range" p1) [a] [] p2) X.env) :: starEach [] X.env := by rfl) : JE X E .st (.Call (.Name "tuple" p) [.Call (.Name "range" p1) [a] [] p2] [] pos) (e1 dTupRg fa) :=
  ⟨(pe_tupRg hc hg hm (prg_1 hg2 hm2 ha.pe na) na2).imp fun σ H Q ⟨v, g, env, W, R, ER, o, eo, hf, x, q⟩ => ⟨v, g, env, W, _, ER, o, eo, hf, x, fun u d g1 H1 W1 h1 m1 o1 w1 => by
    cases d with
    | int n =>
      obtain ⟨⟨z1, z2⟩, h1⟩ := h1
      cases w1
      exact ⟨n, rfl, RgOk.of_le (Int.le_refl 0) z2 (by decide) z1, (q.mv m1).newT o1 h1 (by rw [rgV_length]; show _ ≤ 16777216; omega) (rep_range n)⟩
    | _ => exact h1.elim⟩⟩
theorem tyL {K : PySem.W.Frag} {H : Hp} {a : Addr} {vs : List V} (h : SqL K H a vs) : tyV K "list" (.ref a) H := .inl ⟨rfl, vs, h⟩
/-- methods of a list with one argument -/
def dIndex : D → D → M D
  | .lst ds, y => fun W R _ => (D.lst ds).okd 60 = true ∧ y.okd 60 = true ∧ ∃ j z, ds[j]? = some z ∧ z.eqb y = true ∧ (∀ m z', m < j → ds[m]? = some z' → z'.eqb y = false) ∧ R (.int (j : Nat)) W
  | _, _ => fail
def dCount : D → D → M D
  | .lst ds, .int n => fun W R _ => ∃ ns : List Int, ds = ns.map .int ∧ R (.int (ns.count n : Nat)) W
  | _, _ => fail
def D.isL : D → Bool
  | .lst _ => true
  | _ => false
/-- a method: what it is of is looked at ahead of its argument -/
def e2g (t : D → Bool) (F : D → D → M D) (fa fb : Env → M D) : Env → M D := fun env => bnd (fa env) fun x => ask (t x = true) (bnd (fb env) (F x))
/-- a list's method of one argument, by its rule -/
theorem je_lm {name : Str} {id : String} {r : V → List V → Hp → VK → Prop} {F : D → D → M D} (slot : Slot "list" name id) (hty : typeOf (.builtin id) = pure (.type "method_descriptor")) (hm : MtR X id r) (hF : Op2 (Cx.ct X) .st (fun u w H Q => r u [w] H Q) F) (ha : JE X E .wk a fa) (hb : JE X E .wk b fb)
    (hbase : attributeBase a name X.env (eval a X.env) = eval a X.env := by rfl)
    (hfew : ((backTo pos (starEach [b] X.env)).all (fun x => !x.1) && (backToKw pos (keywordEach [] X.env)).all (fun x => x.1.isSome) && decide ([b].length + ([] : List Keyword).length + (if ([] : List Keyword).isEmpty then 0 else 1) < 30)) = true := by rfl)
    (hline : (apos.endLine == pos.line) = true := by rfl) (hs : starEach [b] X.env = (false, eval b X.env) :: starEach [] X.env := by rfl) (hpl : (backTo pos (starEach [] X.env)).any (·.1) = false := by rfl) :
    JE X E .st (.Call (.Attribute a name apos) [b] [] pos) (e2g D.isL F fa fb) :=
  ⟨(pe_bm PySem.F.plainAttrs_list slot hty hm ha.pe (pa_cons hb.pe pa_nil hs) hbase hfew hline hs hpl).imp fun σ H Q ⟨v, g, env, W, R, ER, o, eo, hf, x, q⟩ =>
    ⟨v, g, env, W, _, ER, o, eo, hf, x, fun u d g1 H1 W1 h1 m1 o1 w1 => by
      obtain ⟨hi, h1⟩ := h1
      cases d with
      | lst ds =>
        obtain ⟨q1, vs, eu, z, h, kk⟩ := Wk.lst o1 w1
        subst eu
        exact ⟨tyL (SqL.of h), v, g1, env, W1, _, ER, o1, eo.mono m1, h1, x.mv m1, fun y e g2 H2 W2 h2 m2 o2 w2 => hF v g2 H2 W2 R ER Q _ y _ e o2 (Wk.mono m2 w1) w2 h2 (q.mv (m1.trans m2))⟩
      | _ => cases hi⟩⟩
theorem op2_index {c : Ct} : Op2 c .st (fun u w H Q => rIndexD c.K u [w] H Q) dIndex := by
  intro v g H W R ER Q u w x y o hx hy hf q
  cases x with
  | lst ds =>
    obtain ⟨k1, k2, j, z, e1, e2, e3, hr⟩ := hf
    have dp := hx.dp o.bh (D.okd_plain 60 _ k1)
    obtain ⟨q1, vs, rfl, zz, h, kk⟩ := hx.lst o
    have dp : Dp c.K H (.ref q1) (.list (D.toPs ds)) := dp
    refine ⟨q1, w, y.toP, D.toPs ds, j, z.toP, rfl, rfl, dp, hy.dp o.bh (D.okd_plain 60 _ k2), D.okd_shaped k1, D.okd_shaped k2, by rw [D.toPs_eq, List.getElem?_map, e1]; rfl, e2, fun m z' hm hz => ?_, q.now o hr (.int _)⟩
    rw [D.toPs_eq, List.getElem?_map] at hz
    cases hd : ds[m]? with
    | none => rw [hd] at hz; cases hz
    | some d' =>
      rw [hd] at hz
      cases hz
      exact e3 m d' hm hd
  | _ => exact hf.elim
theorem op2_count {c : Ct} : Op2 c .st (fun u w H Q => rCntI c.K u [w] H Q) dCount := by
  intro v g H W R ER Q u w x y o hx hy hf q
  cases x with
  | lst ds =>
    cases y with
    | int n =>
      obtain ⟨ns, rfl, hr⟩ := hf
      obtain ⟨q1, vs, rfl, zz, h, kk⟩ := hx.lst o
      cases kk.ints
      cases hy.int
      exact ⟨q1, ns, n, rfl, rfl, SqL.of h, q.now o hr (.int _)⟩
    | _ => exact hf.elim
  | _ => exact hf.elim
end
end Y

set_option maxRecDepth 100000
set_option maxHeartbeats 400000
namespace Y
open PySem PySem.Spec PyProof.Rows L2

/-! ### the law's own def -/
/-- row = [script, 0, seed, 0] -/
def tRow (seed : Int) : TS := tAsg (tLst (tCons (tVar 0) (tCons (tC (.int 0)) (tCons (tC (.int seed)) (tCons (tC (.int 0)) tNil))))) (gName 1)
def spLaw (K : PySem.W.Frag) (cs : List (Addr × Addr)) : Sp := fun vs H Q _ => ∃ (a : Addr) (ns : List Int), vs = [.ref a] ∧ ScrOk K ns a H ∧ (∀ p ∈ cs, H p.2 = some (.tbl #[])) ∧ ∀ H', Q (.bl true) H'
def envL (N : List Str) : Env := .no :: .v .row :: List.replicate (N.length - 2) .no
/-- the law's def says True of every script -/
def Says (N : List Str) (sm : SM) : Prop := sm (envL N) [] ⟨fun _ _ => False, fun d _ => d = .bl true, fun _ _ => False, fun _ _ => False, fun _ _ => False⟩
section
variable {P : Program} {w : World} {K : PySem.W.Frag} {mg : Str → Option Value} {base : Heap} {f : Addr} {fd : FuncData} {st : Stmt} {N : List Str} {k : Nat}
theorem law_fg {sm : SM} {seed : Int} (F : Fun K "law" "law" st f fd) (S : FnScope N ["script"] (defScope st)) (hN : 2 ≤ N.length) (hs : Says N sm)
    (hb : ∀ (cdv : Value) (A : Around) (outer : List PySem.Env) (s : Shared) (H : Hp) (E : XK), fd.code = cdv → Quiet A → Room k (A.deeper (envOfC "law" (defScope st) s.heap.objs.size f cdv)) → Gx (Xf P w K mg base N "law" (defScope st) f cdv A outer s H E) E →
      ∃ st1 rest, defBody st = st1 :: rest ∧ PS (Xf P w K mg base N "law" (defScope st) f cdv A outer s H E) st1 (tRow seed) ∧ JSs (Xf P w K mg base N "law" (defScope st) f cdv A outer s H E) E rest sm) :
    FGg Quiet P w K mg base (k + 1) f fd ["script"] (spLaw K [He.cT K ("law", none)]) := by
  refine FGg.body F S (fun vs H Q E ⟨a, ns, l, _⟩ => by rw [l]; rfl) fun cdv A outer s H vs Q E hcv hga hr G ⟨a, ns, ev, sc, tb, q⟩ => ?_
  obtain ⟨st1, rest, eb, h1, h2⟩ := hb cdv A outer s H E hcv hga hr G
  rw [eb]
  refine ⟨_, pss_cons h1 h2.ps, ?_⟩
  subst ev
  have e0 : (L2.start N [V.ref a])[0]? = some (some (V.ref a)) := rfl
  refine ⟨_, e0, by show 4 ≤ sizeLine; decide, fun p hp => ?_⟩
  -- the row stands at p
  have ri : RowI K (lamT K) ns a p (upd H p (rowO a 0 seed 0)) := by
    refine ⟨⟨0, seed, 0, Int.le_refl 0, upd_same⟩, ?_, ?_⟩
    · rcases sc with ⟨o, z⟩ | z
      · exact .inl ⟨o, by rw [upd_ne (ne_of_none z hp)]; exact z⟩
      · exact .inr z
    · intro t ht
      rw [List.mem_singleton.mp ht]
      have z := tb _ (List.mem_singleton.mpr rfl)
      exact LamX.TabS.nil (by rw [upd_ne (ne_of_none z hp)]; exact z)
  have ok : Ok ⟨K, mg⟩ (voL K (lamT K) ns a p) ⟨fun _ => none, []⟩ (upd H p (rowO a 0 seed 0)) [] :=
    ⟨(fun _ _ z => nomatch z), (fun _ _ => rfl), (fun _ z => nomatch z), ri, rfl, List.nodup_nil, (fun i x o z _ => by simp at z), ⟨rfl, rfl⟩, (fun _ _ z => nomatch z)⟩
  refine ⟨voL K (lamT K) ns a p, ⟨fun _ => none, []⟩, upd H p (rowO a 0 seed 0), ⟨fun _ => none, []⟩, envL N, [], _, ⟨Gr.refl _ _ _, ok, ⟨?_, fun i sl z => ?_, fun i j d e u z _ _ _ => ?_⟩, fun i d q z _ => ?_⟩, hs, XW.no, fun _ _ _ _ _ z => z.elim, fun u d g' H' W' z _ _ r => ?_, fun _ _ _ _ _ z => z.elim, fun _ _ _ _ _ z => z.elim⟩
  · rw [List.length_set]
    unfold L2.start envL
    simp only [List.length_append, List.length_map, List.length_replicate, List.length_cons, List.length_nil]
    omega
  · match i with
    | 0 =>
      cases z
      exact True.intro
    | 1 =>
      cases z
      refine ⟨.ref p, ?_, .row⟩
      rw [List.getElem?_set_self]
      unfold L2.start
      simp only [List.length_append, List.length_map, List.length_replicate, List.length_cons, List.length_nil]
      omega
    | i + 2 =>
      have z : (List.replicate (N.length - 2) Sl.no)[i]? = some sl := z
      rw [List.getElem?_replicate] at z
      split at z
      · cases z
        exact True.intro
      · cases z
  · match i with
    | 0 => cases z
    | 1 => cases z
    | i + 2 =>
      have z : (List.replicate (N.length - 2) Sl.no)[i]? = some (.o d) := z
      rw [List.getElem?_replicate] at z
      split at z <;> cases z
  · match i with
    | 0 => cases z
    | 1 => cases z
    | i + 2 =>
      have z : (List.replicate (N.length - 2) Sl.no)[i]? = some (.o d) := z
      rw [List.getElem?_replicate] at z
      split at z <;> cases z
  · have z : d = .bl true := z
    subst z
    cases r
    exact q H'
/-- the law's frame, for its lambdas -/
theorem lamG_of {N : List Str} {A : Around} {outer : List PySem.Env} {s : Shared} {H : Hp} {E : XK} {cdv : Value} {qual : Str} {d : He.DefD} (F : Fun K "law" "law" st f fd) (hf : f = He.fAd K ("law", none)) (hc : fd.code = cdv) (tb : LamX.TabB base mg (He.cT K ("law", none)).1 (He.cT K ("law", none)).2) :
    LamG (Xf P w K mg base N "law" (defScope st) f cdv A outer s H E) := by
  obtain ⟨oc, od, kV, doc, pm, an, cd2, ct, osl, rfl, lk, hcd⟩ := F.ex
  obtain ⟨c, ec⟩ := He.codeIn_ref hcd
  subst hf
  have e1 := He.codeOf_eq (p := (("law" : Str), none)) lk ec
  have e2 : (He.cT K (("law" : Str), none)).1 = c := e1
  refine ⟨c, (He.cT K (("law" : Str), none)).2, by rw [← e2]; exact tb, ?_, rfl⟩
  show cdv = .ref c
  rw [← hc]
  exact ec
end
end Y

set_option maxRecDepth 100000
set_option maxHeartbeats 2000000
namespace Y
open PySem PySem.Spec PyProof.Rows L2
open He (ga ma eqO eqO_ok ba)

/-! ### facts of the errors' classes, as a look at the written part -/
def oexB (K : PySem.W.Frag) (C : Addr) : Bool := match K.lookup C with
  | some ⟨.type t, _, .cls c, sl⟩ => decide (t = "type") && (match c.mro with
    | .ref D :: r => decide (D = C) && PySem.HandSPX.refsVE r
    | _ => false) && c.hasDict && !c.hasDel && (match sl.toList with
    | [_, _, _, _, some (.builtin i), _] => decide (i = "ValueError.__new__")
    | _ => false)
  | _ => false
theorem oexB_ok {K : PySem.W.Frag} {C : Addr} (h : oexB K C = true) : ∃ nm q N bs bm sn sub ab col dd k0 k1 k2 k3 k5, K.lookup C = some (excClassObj nm q C N bs bm true sn sub ab col dd k0 k1 k2 k3 k5 "ValueError.__new__") ∧ PySem.HandSPX.refsVE bm = true := by
  unfold oexB at h
  split at h
  · rename_i t dd c sl e
    rw [Bool.and_eq_true, Bool.and_eq_true, Bool.and_eq_true, Bool.and_eq_true] at h
    obtain ⟨⟨⟨⟨h1, h2⟩, h3⟩, h4⟩, h5⟩ := h
    obtain ⟨nm, bs, mro, N, q, hdct, sn, sub, ab, col, hdel⟩ := c
    dsimp only at h2 h3 h4
    split at h2
    · rename_i D r
      rw [Bool.and_eq_true] at h2
      obtain ⟨h6, h7⟩ := h2
      have e1 : t = "type" := of_decide_eq_true h1
      have e2 : D = C := of_decide_eq_true h6
      have e3 : hdct = true := h3
      have e4 : hdel = false := by simpa using h4
      split at h5
      · rename_i k0 k1 k2 k3 i k5 es
        have e5 : i = "ValueError.__new__" := of_decide_eq_true h5
        have e6 : sl = #[k0, k1, k2, k3, some (.builtin i), k5] := by
          apply Array.toList_inj.mp
          rw [es]
        subst e1 e2 e3 e4 e5 e6
        exact ⟨nm, q, N, bs, r, sn, sub, ab, col, dd, k0, k1, k2, k3, k5, e, h7⟩
      · cases h5
    · cases h2
  · cases h
def iAd (K : PySem.W.Frag) : Addr := ma K (ga K "SpareError") "__init__"
/-- one error's class; its __init__ is SpareError's -/
def errB (K : PySem.W.Frag) (x : Str) : Bool :=
  oexB K (ga K x) && (eqO (PySem.W.findIn K (.ref (ga K x)) "__setattr__") (some (some (.builtin "object.__setattr__"))) && (decide (PySem.W.subIn K (.ref (ga K x)) (.type "BaseException") = some true) && (decide (PySem.W.typeIn K (.ref (ga K x)) = some (.type "type")) &&
  (PySem.W.keepIn K (.ref (ga K x)) && (eqO (PySem.W.findIn K (.ref (ga K x)) "value") (some none) && (eqO (PySem.W.findIn K (.ref (ga K x)) "__init__") (some (some (.ref (iAd K)))) && (xfB K (ga K x) && eqO (PySem.W.nsIn K mainGlobals x) (some (some (.ref (ga K x)))))))))))
def exmB (K : PySem.W.Frag) (xs : List Str) : Bool := xs.all fun x => xs.all fun y => decide (PySem.W.exmOne K (.ref (ga K x)) (.ref (ga K y)) = some (decide (x = y)))
/-- all that is looked at: the errors (only: those with SpareError's __init__), and that it is a function -/
def errsB (xs : List Str) (K : PySem.W.Frag) : Bool := xs.all (errB K) && (exmB K xs && decide (PySem.W.typeIn K (.ref (iAd K)) = some (.type "function")))
structure ErrOk (K : PySem.W.Frag) (x : Str) : Prop where
  oex : OexC K (ga K x)
  noV : PySem.W.findIn K (.ref (ga K x)) "value" = some none
  ini : PySem.W.findIn K (.ref (ga K x)) "__init__" = some (some (.ref (iAd K)))
  xf : XfC K (ga K x)
  ns : PySem.W.nsIn K mainGlobals x = some (some (.ref (ga K x)))
theorem errB_ok {K : PySem.W.Frag} {x : Str} (h : errB K x = true) : ErrOk K x := by
  obtain ⟨h1, h⟩ := ba h
  obtain ⟨h2, h⟩ := ba h
  obtain ⟨h3, h⟩ := ba h
  obtain ⟨h4, h⟩ := ba h
  obtain ⟨h5, h⟩ := ba h
  obtain ⟨h6, h⟩ := ba h
  obtain ⟨h7, h⟩ := ba h
  obtain ⟨h8, h9⟩ := ba h
  exact ⟨⟨oexB_ok h1, eqO_ok h2, of_decide_eq_true h3, of_decide_eq_true h4, h5⟩, eqO_ok h6, eqO_ok h7, xfB_ok h8, eqO_ok h9⟩
theorem errsB_ok {K : PySem.W.Frag} {xs : List Str} (h : errsB xs K = true) : (∀ x ∈ xs, ErrOk K x) ∧ (∀ x ∈ xs, ∀ y ∈ xs, PySem.W.exmOne K (.ref (ga K x)) (.ref (ga K y)) = some (decide (x = y))) ∧ PySem.W.typeIn K (.ref (iAd K)) = some (.type "function") := by
  obtain ⟨h1, h⟩ := ba h
  obtain ⟨h2, h3⟩ := ba h
  refine ⟨fun x hx => errB_ok (List.all_eq_true.mp h1 x hx), fun x hx y hy => ?_, of_decide_eq_true h3⟩
  have := List.all_eq_true.mp (List.all_eq_true.mp h2 x hx) y hy
  exact of_decide_eq_true this
section
variable {P : Program} {w : World} {K : PySem.W.Frag} {mg : Str → Option Value} {base : Heap} {h : Heap}
/-- SpareError's __init__ as it stands -/
structure IniD (K : PySem.W.Frag) (st : Stmt) (fd : FuncData) : Prop where
  F : FunD K "__init__" "SpareError.__init__" (defArgs st) (defBody st) (defScope st) [.non] [] (iAd K) fd
  S : FnScope ["self", "value"] ["self", "value"] (defScope st)
  B : ∃ p1 p2 p3 p4, defBody st = [.Assign [.Attribute (.Name "self" p1) "value" p2] (.Name "value" p3) p4]
  v1 : Vis (defScope st) "self"
  v2 : Vis (defScope st) "value"
  b2 : Binds K fd ["self", "value"] []
theorem IniD.ok {st : Stmt} {fd : FuncData} (I : IniD K st fd) : FnOk P w K mg base CX0 1 (iAd K) fd ["self", "value"] (spI K) := by
  obtain ⟨p1, p2, p3, p4, hb⟩ := I.B
  refine I.F.ok I.S (fun vs H Q E h => ?_) (fun cdv A outer s H vs Q E hr h => ?_)
  · obtain ⟨a, C, y, rfl, _⟩ := h
    rfl
  · obtain ⟨a, C, y, rfl, T, hn, ha, q⟩ := h
    rw [hb]
    exact ⟨_, pss_one (ps_ost (pe_var (i := 0) rfl I.v1) (pe_var (i := 1) rfl I.v2) rfl), y, rfl, .ref a, rfl, a, C, rfl, T, hn, .inl ⟨ha, fun dx n ne => q dx n ne⟩⟩
theorem ini_binds {st : Stmt} {fd : FuncData} (F : FunD K "__init__" "SpareError.__init__" (defArgs st) (defBody st) (defScope st) [.non] [] (iAd K) fd)
    (h : ∀ (T : Addr) (kV doc pm : Value) (an : Option Addr) (cdv ct : Value) (us its : List Value), us.length = 2 → its.length = 1 →
      ∃ k, bindArgs (PySem.W.fnOf "__init__" "SpareError.__init__" (defArgs st) (defBody st) (defScope st) (.ref T) kV doc pm an cdv ct) ⟨us, []⟩ = seqItems? (.ref T) >>= k ∧ k (some its.toArray) = pure ((["self", "value"] : List Str).zip (us ++ its.drop 1))) : Binds K fd ["self", "value"] [] := by
  obtain ⟨ds, hv, hb⟩ := F.binds1 (ps := ["self", "value"]) 2 1 (by simp) rfl h
  cases hv
  exact hb
theorem ec_of {st : Stmt} {fd : FuncData} (X : K.In h) (G : h.Ns mainGlobals mg) (I : IniD K st fd) (tI : PySem.W.typeIn K (.ref (iAd K)) = some (.type "function")) {x : Str} (e : ErrOk K x) : Ec K mg x :=
  ⟨ga K x, iAd K, fd, PySem.W.mg_of X G e.ns, e.oex, e.noV, e.ini, tI, I.b2, fun P w base => I.ok⟩
/-- a def of the top as its callers take it -/
structure FnT (K : PySem.W.Frag) (mg : Str → Option Value) (x : Str) (st : Stmt) (ps : List Str) : Prop where
  ex : ∃ (f : Addr) (fd : FuncData), Fun K x x st f fd ∧ mg x = some (.ref f) ∧ Binds K fd ps []
theorem fun_of {x qual : Str} {st : Stmt} {f : Addr} {fd : FuncData} (F : FunD K x qual (defArgs st) (defBody st) (defScope st) [] [] f fd) : Fun K x qual st f fd := by
  obtain ⟨oc, od, dV, kV, doc, pm, an, cdv, ct, osl, rfl, lk, hcd, hD, _⟩ := F.ex
  rcases hD with ⟨_, rfl⟩ | ⟨e, _⟩
  · exact ⟨⟨oc, od, kV, doc, pm, an, cdv, ct, osl, rfl, lk, hcd⟩, F.kp⟩
  · exact absurd rfl e
theorem fnT_of {x : Str} {st : Stmt} {ps : List Str} {f : Addr} {fd : FuncData} (F : FunD K x x (defArgs st) (defBody st) (defScope st) [] [] f fd) (hm : mg x = some (.ref f))
    (hb : ∀ (kV doc pm : Value) (an : Option Addr) (cdv ct : Value) (us : List Value), us.length = ps.length → bindArgs (PySem.W.fnOf x x (defArgs st) (defBody st) (defScope st) .none kV doc pm an cdv ct) ⟨us, []⟩ = pure (ps.zip us)) : FnT K mg x st ps :=
  ⟨f, fd, fun_of F, hm, F.bindsN hb⟩
/-- a def by its body -/
theorem fn_of' {x : Str} {st : Stmt} {ps N : List Str} {k : Nat} {sm : SM} (T : FnT K mg x st ps) (S : FnScope N ps (defScope st))
    (hb : ∀ (f : Addr) (cdv : Value) (A : Around) (outer : List PySem.Env) (s : Shared) (H : Hp) (E : XK), Room k (A.deeper (envOfC x (defScope st) s.heap.objs.size f cdv)) → Gx (Xf P w K mg base N x (defScope st) f cdv A outer s H E) E →
      JSs (Xf P w K mg base N x (defScope st) f cdv A outer s H E) E (defBody st) sm) : Fn P w K mg base (k + 1) x ps.length (semF N sm) := by
  obtain ⟨f, fd, F, hm, hbd⟩ := T.ex
  exact ⟨f, fd, ps, FG.of F S (hb f), hm, F.kp, hbd⟩
theorem taken_fn {st : Stmt} {k : Nat} (T : FnT K mg "_law_taken" st ["row", "many"]) (S : FnScope nTaken ["row", "many"] (defScope st))
    (hb : ∀ (f : Addr) (cdv : Value) (A : Around) (outer : List PySem.Env) (s : Shared) (H : Hp) (E : XK), PSs (Xf P w K mg base nTaken "_law_taken" (defScope st) f cdv A outer s H E) (defBody st) (tTaken K)) : Fn P w K mg base (k + 1) "_law_taken" 2 sTaken := by
  obtain ⟨f, fd, F, hm, hbd⟩ := T.ex
  exact ⟨f, fd, ["row", "many"], taken_fg F S (hb f), hm, F.kp, hbd⟩
end
/-! ### the refuser's clauses -/
theorem hda_one {X : Cx} {x word : Str} {C : Addr} {hds : List ExceptHandler} {l : List Cl} {p1 p2 p3 p4 p5 p6 p7 : Pos} {j k : Nat} (gm : X.mg x = some (.ref C)) (T : XfC X.K C) (hno : PySem.W.findIn X.K (.ref C) "value" = some none) (hN : X.N[1]? = some ("e" : Str)) (hv : Vis X.env.scope "e") (hg : Gl X x) (hdb : (x == ("__debug__" : Str)) = false) (r : HdA X "e" hds l)
    (hb : ∀ (a : Addr) (pn : List (Addr × Obj)), attributeBase (.Name ("e" : Str) p4) "value" (X.suite a pn).env (eval (.Name ("e" : Str) p4) (X.suite a pn).env) = eval (.Name ("e" : Str) p4) (X.suite a pn).env := by intros; rfl)
    (hs : ∀ (a : Addr) (pn : List (Addr × Obj)), starEach [.Constant (.str word) j p2, .Attribute (.Name ("e" : Str) p4) "value" p3] (X.suite a pn).env = (false, eval (.Constant (.str word) j p2) (X.suite a pn).env) :: starEach [.Attribute (.Name ("e" : Str) p4) "value" p3] (X.suite a pn).env := by intros; rfl) :
    HdA X "e" (.ExceptHandler (some (.Name x p1)) (some "e") [.Return (some (.Tuple [.Constant (.str word) j p2, .Attribute (.Name "e" p4) "value" p3] k p5)) p6] p7 :: hds) ((.ref C, tsOf C ⟨x, word, false⟩) :: l) :=
  .cons ⟨hg, hdb, .inl gm⟩ (fun a oe cls d pn hz hf => pss_one (ps_ret (pe_tup (pa_cons pe_str (pa_cons (pe_xf T hno hz hf (pe_var (i := 1) hN hv (by decide) (by decide)) (hb a ((a, oe) :: pn))) pa_nil) (hs a ((a, oe) :: pn)))))) r
/-! ### constants of the module, whatever their tokens -/
section
variable {X : Cx} {E : XK} {pos : Pos}
theorem je_gintE {x : Str} {i : Int} (hm : ∃ t, X.mg x = some (.int i t)) (hg : Gl X x := by rfl) (hd : (x == ("__debug__" : Str)) = false := by decide) : JE X E .st (.Name x pos) (eC (.int i)) := let ⟨_, h⟩ := hm; je_gint h hg hd
theorem je_gstrE {x z : Str} (hm : ∃ t, X.mg x = some (.str z t)) (hz : z.length ≤ sizeLine := by decide) (hg : Gl X x := by rfl) (hd : (x == ("__debug__" : Str)) = false := by decide) : JE X E .st (.Name x pos) (eC (.str z)) := let ⟨_, h⟩ := hm; je_gstr h hz hg hd
theorem je_gfnE {x : Str} {st : Stmt} {ps : List Str} (h : FnT X.K X.mg x st ps) (hg : Gl X x := by rfl) (hd : (x == ("__debug__" : Str)) = false := by decide) : JE X E .st (.Name x pos) (eC (.fn x)) := let ⟨_, _, _, h, _⟩ := h.ex; je_gfn h hg hd
end
end Y

set_option maxRecDepth 100000
set_option maxHeartbeats 400000
namespace Y
open PySem PySem.Spec PyProof.Rows L2
open PySem.W (AllAlike Sortable dataLe dataLt)

/-! ### the readings run, one place at a time -/
def Ks.sq (K : Ks) (t : SM) : Ks := { K with nx := fun e w => t e w K }
def Ks.lp (K : Ks) (P : Env → List MO → Prop) : Ks := { K with nx := P, ct := P, bk := K.nx }
def kS (R : D → List MO → Prop) (E : Exn → List MO → Prop) : Ks := ⟨fun _ W' => R .non W', R, fun _ _ => False, fun _ _ => False, E⟩
section
variable {α β : Type} {W : List MO} {E : Exn → List MO → Prop} {K : Ks} {env : Env} {P : Env → List MO → Prop} {t : SM}
theorem sq_rt : (K.sq t).rt = K.rt := id rfl
theorem sq_ex : (K.sq t).ex = K.ex := id rfl
theorem sq_bk : (K.sq t).bk = K.bk := id rfl
theorem sq_ct : (K.sq t).ct = K.ct := id rfl
theorem sq_nx : (K.sq t).nx env W = t env W K := id rfl
theorem lp_rt : (K.lp P).rt = K.rt := id rfl
theorem lp_ex : (K.lp P).ex = K.ex := id rfl
theorem lp_bk : (K.lp P).bk = K.nx := id rfl
theorem lp_ct : (K.lp P).ct = P := id rfl
theorem lp_nx : (K.lp P).nx = P := id rfl
theorem kS_rt {R : D → List MO → Prop} : (kS R E).rt = R := id rfl
theorem kS_ex {R : D → List MO → Prop} : (kS R E).ex = E := id rfl
theorem kS_nx {R : D → List MO → Prop} : (kS R E).nx env W = R .non W := id rfl
theorem ret_ap {R : α → List MO → Prop} (a : α) : ret a W R E = R a W := id rfl
theorem bnd_ap {R : β → List MO → Prop} (m : M α) (f : α → M β) : bnd m f W R E = m W (fun a W' => f a W' R E) E := id rfl
theorem ask_ap {R : α → List MO → Prop} (p : Prop) (m : M α) : ask p m W R E = (p ∧ m W R E) := id rfl
theorem fail_ap {R : α → List MO → Prop} : (fail : M α) W R E = False := id rfl
theorem noE_ap {R : α → List MO → Prop} (m : M α) : noE m W R E = m W R fun _ _ => False := id rfl
variable {R : D → List MO → Prop} {RB : Bool → List MO → Prop} {RL : List D → List MO → Prop}
theorem eName_ap (i : Nat) : eName i env W R E = (match env[i]? with | some (.v d) => R d W | _ => False) := by
  unfold eName
  cases q : env[i]? with
  | none => rfl
  | some s => cases s <;> rfl
theorem eOwn_ap (i : Nat) : eOwn i env W R E = (match env[i]? with | some (.v d) => R d W | some (.o d) => R d W | _ => False) := by
  unfold eOwn
  cases q : env[i]? with
  | none => rfl
  | some s => cases s <;> rfl
theorem eC_ap (d : D) : eC d env W R E = R d W := id rfl
theorem e1_ap (F : D → M D) (fa : Env → M D) : e1 F fa env W R E = fa env W (fun a W' => F a W' R E) E := id rfl
theorem e2_ap (F : D → D → M D) (fa fb : Env → M D) : e2 F fa fb env W R E = fa env W (fun a W1 => fb env W1 (fun b W2 => F a b W2 R E) E) E := id rfl
theorem e2g_ap (t : D → Bool) (F : D → D → M D) (fa fb : Env → M D) : e2g t F fa fb env W R E = fa env W (fun a W1 => t a = true ∧ fb env W1 (fun b W2 => F a b W2 R E) E) E := id rfl
theorem e3_ap (F F' : D → D → M D) (fa fb fc : Env → M D) : e3 F F' fa fb fc env W R E = fa env W (fun x W1 => fb env W1 (fun y W2 => F x y W2 (fun t W3 => match t with | .bl true => fc env W3 (fun z W4 => F' y z W4 R E) E | .bl false => R (.bl false) W3 | _ => False) E) E) E := by
  have h : ∀ (x y : D) (W3 : List MO) (t : D), (match t with | .bl true => bnd (fc env) fun z => F' y z | .bl false => ret (.bl false) | _ => fail : M D) W3 R E = (match t with | .bl true => fc env W3 (fun z W4 => F' y z W4 R E) E | .bl false => R (.bl false) W3 | _ => False) := fun x y W3 t => by
    cases t with
    | bl b => cases b <;> rfl
    | _ => rfl
  exact congrArg (fun k => fa env W k E) (funext fun x => funext fun W1 => congrArg (fun k => fb env W1 k E) (funext fun y => funext fun W2 => congrArg (fun k => F x y W2 k E) (funext fun t => funext fun W3 => h x y W3 t)))
theorem tst_ap (f : Env → M D) : tst f env W RB E = f env W (fun d W' => match d with | .bl b => RB b W' | _ => False) E := by
  have h : ∀ (W3 : List MO) (d : D), (match d with | .bl b => ret b | _ => fail : M Bool) W3 RB E = (match d with | .bl b => RB b W3 | _ => False) := fun W3 d => by cases d <;> rfl
  exact congrArg (fun k => f env W k E) (funext fun d => funext fun W' => h W' d)
theorem bAnd_ap (fa fb : Env → M Bool) : bAnd fa fb env W RB E = fa env W (fun b W' => if b = true then fb env W' RB E else RB false W') E := by
  have h : ∀ (W3 : List MO) (b : Bool), (match b with | true => fb env | false => ret false : M Bool) W3 RB E = (if b = true then fb env W3 RB E else RB false W3) := fun W3 b => by cases b <;> rfl
  exact congrArg (fun k => fa env W k E) (funext fun d => funext fun W' => h W' d)
theorem bOr_ap (fa fb : Env → M Bool) : bOr fa fb env W RB E = fa env W (fun b W' => if b = true then RB true W' else fb env W' RB E) E := by
  have h : ∀ (W3 : List MO) (b : Bool), (match b with | true => ret true | false => fb env : M Bool) W3 RB E = (if b = true then RB true W3 else fb env W3 RB E) := fun W3 b => by cases b <;> rfl
  exact congrArg (fun k => fa env W k E) (funext fun d => funext fun W' => h W' d)
theorem bNot_ap (fa : Env → M Bool) : bNot fa env W RB E = fa env W (fun b W' => RB (!b) W') E := id rfl
theorem bYes_ap : bYes env W RB E = RB true W := id rfl
theorem vAnd_ap (fa fb : Env → M D) : vAnd fa fb env W R E = fa env W (fun d W' => match d with | .bl b => (if b = true then fb env W' R E else R (.bl false) W') | _ => False) E := by
  have h : ∀ (W3 : List MO) (d : D), (match d with | .bl true => fb env | .bl false => ret (.bl false) | _ => fail : M D) W3 R E = (match d with | .bl b => (if b = true then fb env W3 R E else R (.bl false) W3) | _ => False) := fun W3 d => by
    cases d with
    | bl b => cases b <;> rfl
    | _ => rfl
  exact congrArg (fun k => fa env W k E) (funext fun d => funext fun W' => h W' d)
theorem vOr_ap (fa fb : Env → M D) : vOr fa fb env W R E = fa env W (fun d W' => match d with | .bl b => (if b = true then R (.bl true) W' else fb env W' R E) | _ => False) E := by
  have h : ∀ (W3 : List MO) (d : D), (match d with | .bl true => ret (.bl true) | .bl false => fb env | _ => fail : M D) W3 R E = (match d with | .bl b => (if b = true then R (.bl true) W3 else fb env W3 R E) | _ => False) := fun W3 d => by
    cases d with
    | bl b => cases b <;> rfl
    | _ => rfl
  exact congrArg (fun k => fa env W k E) (funext fun d => funext fun W' => h W' d)
theorem vNot_ap (fa : Env → M D) : vNot fa env W R E = fa env W (fun d W' => match d with | .bl b => R (.bl (!b)) W' | _ => False) E := by
  have h : ∀ (W3 : List MO) (d : D), (match d with | .bl z => ret (.bl (!z)) | _ => fail : M D) W3 R E = (match d with | .bl b => R (.bl (!b)) W3 | _ => False) := fun W3 d => by cases d <;> rfl
  exact congrArg (fun k => fa env W k E) (funext fun d => funext fun W' => h W' d)
theorem tru_ap (f : Env → M D) : tru f env W RB E = f env W (fun d W' => match d.tru with | some b => RB b W' | none => False) E := by
  have h : ∀ (W3 : List MO) (d : D), (match d.tru with | some b => ret b | none => fail : M Bool) W3 RB E = (match d.tru with | some b => RB b W3 | none => False) := fun W3 d => by cases d.tru <;> rfl
  exact congrArg (fun k => f env W k E) (funext fun d => funext fun W' => h W' d)
theorem eIf_ap (t : Env → M Bool) (fa fb : Env → M D) : eIf t fa fb env W R E = t env W (fun b W' => if b = true then fa env W' R E else fb env W' R E) E := by
  have h : ∀ (W3 : List MO) (b : Bool), (match b with | true => fa env | false => fb env : M D) W3 R E = (if b = true then fa env W3 R E else fb env W3 R E) := fun W3 b => by cases b <;> rfl
  exact congrArg (fun k => t env W k E) (funext fun d => funext fun W' => h W' d)
theorem aNil_ap : aNil env W RL E = RL [] W := id rfl
theorem aCons_ap (fa : Env → M D) (fr : Env → M (List D)) : aCons fa fr env W RL E = fa env W (fun a W1 => fr env W1 (fun b W2 => RL (a :: b) W2) E) E := id rfl
theorem aStar_ap (fa : Env → M D) (fr : Env → M (List D)) : aStar fa fr env W RL E = fa env W (fun a W1 => match a.items with | some ys => fr env W1 (fun b W2 => RL (ys ++ b) W2) E | none => False) E := by
  have h : ∀ (W3 : List MO) (a : D), (match a.items with | some ys => bnd (fr env) fun xs => ret (ys ++ xs) | none => fail : M (List D)) W3 RL E = (match a.items with | some ys => fr env W3 (fun b W2 => RL (ys ++ b) W2) E | none => False) := fun W3 a => by cases a.items <;> rfl
  exact congrArg (fun k => fa env W k E) (funext fun d => funext fun W' => h W' d)
theorem eTup_ap (f : Env → M (List D)) : eTup f env W R E = f env W (fun ds W' => R (.tup ds) W') E := id rfl
theorem eLst_ap (f : Env → M (List D)) : eLst f env W R E = f env W (fun ds W' => R (.lst ds) W') E := id rfl
theorem eTupS_ap (f : Env → M (List D)) : eTupS f env W R E = f env W (fun ds W' => ds.length ≤ sizeLine ∧ R (.tup ds) W') E := id rfl
theorem eLstS_ap (f : Env → M (List D)) : eLstS f env W R E = f env W (fun ds W' => ds.length ≤ sizeLine ∧ R (.lst ds) W') E := id rfl
theorem eCall_ap (sem : List D → M D) (fs : Env → M (List D)) : eCall sem fs env W R E = fs env W (fun ds W' => sem ds W' R E) E := id rfl
theorem eCallL_ap (i n : Nat) (tbl : FTab) (fs : Env → M (List D)) : eCallL i n tbl fs env W R E = (match callee i n tbl env with | some sem => fs env W (fun ds W' => sem ds W' R E) E | none => False) := by
  unfold eCallL
  cases callee i n tbl env <;> rfl
theorem eRef_ap (rcs : List RC) (f : Env → M D) : eRef rcs f env W R E = f env W (fun _ W' => R (.tup [.str "", .non]) W') fun x W' => ∃ d, refAt rcs x = some d ∧ R d W' := id rfl
theorem eIsi_ap (T : String) (fa : Env → M D) : eIsi T fa env W R E = fa env W (fun d W' => match d.ty with | some a => R (.bl (isTy a T)) W' | none => False) E := by
  have h : ∀ (W3 : List MO) (d : D), (match d.ty with | some a => ret (.bl (isTy a T)) | none => fail : M D) W3 R E = (match d.ty with | some a => R (.bl (isTy a T)) W3 | none => False) := fun W3 d => by cases d.ty <;> rfl
  exact congrArg (fun k => fa env W k E) (funext fun d => funext fun W' => h W' d)
theorem eIsi2_ap (T U : String) (fa : Env → M D) : eIsi2 T U fa env W R E = fa env W (fun d W' => match d.ty with | some a => R (.bl (isTy a T || isTy a U)) W' | none => False) E := by
  have h : ∀ (W3 : List MO) (d : D), (match d.ty with | some a => ret (.bl (isTy a T || isTy a U)) | none => fail : M D) W3 R E = (match d.ty with | some a => R (.bl (isTy a T || isTy a U)) W3 | none => False) := fun W3 d => by cases d.ty <;> rfl
  exact congrArg (fun k => fa env W k E) (funext fun d => funext fun W' => h W' d)
theorem iSeq_ap (f : Env → M D) : iSeq f env W RL E = f env W (fun d W' => match d.its with | some ds => RL ds W' | none => False) E := by
  have h : ∀ (W3 : List MO) (d : D), (match d.its with | some ds => ret ds | none => fail : M (List D)) W3 RL E = (match d.its with | some ds => RL ds W3 | none => False) := fun W3 d => by cases d.its <;> rfl
  exact congrArg (fun k => f env W k E) (funext fun d => funext fun W' => h W' d)
theorem iEn_ap (f : Env → M D) : iEn f env W RL E = f env W (fun d W' => match d with | .lst ds => RL (enumD ds) W' | .tup ds => RL (enumD ds) W' | _ => False) E := by
  have h : ∀ (W3 : List MO) (d : D), (match d with | .lst ds => ret (enumD ds) | .tup ds => ret (enumD ds) | _ => fail : M (List D)) W3 RL E = (match d with | .lst ds => RL (enumD ds) W3 | .tup ds => RL (enumD ds) W3 | _ => False) := fun W3 d => by cases d <;> rfl
  exact congrArg (fun k => f env W k E) (funext fun d => funext fun W' => h W' d)
theorem iR1_ap (fs : Env → M (List D)) : iR1 fs env W RL E = fs env W (fun ds W' => match ds with | [.int j] => (small62 j ∧ j ≤ sizeLine) ∧ RL (rangeD 0 j.toNat) W' | _ => False) E := by
  have h : ∀ (W3 : List MO) (ds : List D), (match ds with | [.int j] => ask (small62 j ∧ j ≤ sizeLine) (ret (rangeD 0 j.toNat)) | _ => fail : M (List D)) W3 RL E = (match ds with | [.int j] => (small62 j ∧ j ≤ sizeLine) ∧ RL (rangeD 0 j.toNat) W3 | _ => False) := fun W3 d => by
    split
    · rfl
    · rfl
  exact congrArg (fun k => fs env W k E) (funext fun d => funext fun W' => h W' d)
theorem iR2_ap (fs : Env → M (List D)) : iR2 fs env W RL E = fs env W (fun ds W' => match ds with | [.int i, .int j] => (small62 i ∧ small62 j ∧ j - i ≤ sizeLine) ∧ RL (rangeD i (j - i).toNat) W' | _ => False) E := by
  have h : ∀ (W3 : List MO) (ds : List D), (match ds with | [.int i, .int j] => ask (small62 i ∧ small62 j ∧ j - i ≤ sizeLine) (ret (rangeD i (j - i).toNat)) | _ => fail : M (List D)) W3 RL E = (match ds with | [.int i, .int j] => (small62 i ∧ small62 j ∧ j - i ≤ sizeLine) ∧ RL (rangeD i (j - i).toNat) W3 | _ => False) := fun W3 d => by
    split
    · rfl
    · rfl
  exact congrArg (fun k => fs env W k E) (funext fun d => funext fun W' => h W' d)
theorem iR3_ap (fs : Env → M (List D)) : iR3 fs env W RL E = fs env W (fun ds W' => match ds with | [.int i, .int j, .int k] => ∃ n, RgC i j k n ∧ n ≤ sizeLine ∧ RL (rangeC i k n) W' | _ => False) E := by
  have h : ∀ (W3 : List MO) (ds : List D), (match ds with | [.int i, .int j, .int k] => fun W R _ => ∃ n, RgC i j k n ∧ n ≤ sizeLine ∧ R (rangeC i k n) W | _ => fail : M (List D)) W3 RL E = (match ds with | [.int i, .int j, .int k] => ∃ n, RgC i j k n ∧ n ≤ sizeLine ∧ RL (rangeC i k n) W3 | _ => False) := fun W3 d => by
    split
    · rfl
    · rfl
  exact congrArg (fun k => fs env W k E) (funext fun d => funext fun W' => h W' d)
theorem eLc_ap (is : List Nat) (gf : Gt) (cf : Env → M Bool) (ef : Env → M D) (src : Env → M (List D)) : eLc is gf cf ef src env W R E = src env W (fun ds W1 => compM gf cf ef (wipeE env is) ds W1 (fun ys W2 => R (.lst ys) W2) fun _ _ => False) E := id rfl
theorem taken_ap (m : Int) : sTaken [.row, .int m] W R E = ((0 < m ∧ m < 1073741824) ∧ ∀ n, 0 ≤ n → n < m → R (.int n) W) := id rfl
/-! statements -/
theorem sNil_ap : sNil env W K = K.nx env W := id rfl
theorem sSeq_ap (s t : SM) : sSeq s t env W K = s env W (K.sq t) := id rfl
theorem sFrz_ap (i : Nat) (t : SM) : sFrz i t env W K = (match env[i]? with | some (.o d) => t (env.set i (.v d)) W K | some (.v _) => t env W K | _ => False) := id rfl
theorem sExpr_ap (f : Env → M D) : sExpr f env W K = f env W (fun _ W' => K.nx env W') K.ex := id rfl
theorem sRet_ap (f : Env → M D) : sRet f env W K = f env W K.rt K.ex := id rfl
theorem sAsg_ap (gf : Gt) (f : Env → M D) : sAsg gf f env W K = f env W (fun d W' => match gf d env with | some env' => K.nx env' W' | none => False) K.ex := id rfl
theorem sOwn_ap (i : Nat) (f : Env → M D) : sOwn i f env W K = f env W (fun d W' => K.nx (env.set i (.o d)) W') K.ex := id rfl
theorem sIf_ap (cf : Env → M Bool) (s t : SM) : sIf cf s t env W K = cf env W (fun b W' => if b = true then s env W' K else t env W' K) K.ex := by
  have h : ∀ (W3 : List MO) (b : Bool), (match b with | true => s env W3 K | false => t env W3 K : Prop) = (if b = true then s env W3 K else t env W3 K) := fun W3 b => by cases b <;> rfl
  exact congrArg (fun k => cf env W k K.ex) (funext fun d => funext fun W' => h W' d)
theorem sFor_ap (src : Env → M (List D)) (gf : Gt) (s : SM) : sFor src gf s env W K = src env W (fun ds W' => forM gf s ds env W' K) K.ex := id rfl
theorem forM_nil (gf : Gt) (s : SM) : forM gf s [] env W K = K.nx env W := id rfl
theorem forM_cons (gf : Gt) (s : SM) (d : D) (ds : List D) : forM gf s (d :: ds) env W K = (match gf d env with | some env' => s env' W (K.lp fun e w => forM gf s ds e w K) | none => False) := id rfl
theorem sAug_ap (i : Nat) (F : D → D → M D) (f : Env → M D) : sAug i F f env W K = (match env[i]? with | some (.v x) => f env W (fun y W' => F x y W' (fun z W2 => K.nx (env.set i (.v z)) W2) K.ex) K.ex | _ => False) := id rfl
theorem sApp_ap (i : Nat) (f : Env → M D) : sApp i f env W K = (match env[i]? with | some (.o (.lst xs)) => f env W (fun d W' => xs.length < sizeLine ∧ K.nx (env.set i (.o (.lst (xs ++ [d])))) W') K.ex | _ => False) := id rfl
theorem sExt_ap (i : Nat) (f : Env → M D) : sExt i f env W K = (match env[i]? with | some (.o (.lst xs)) => f env W (fun d W' => match d with | .lst ys => xs.length + ys.length ≤ sizeLine ∧ K.nx (env.set i (.o (.lst (xs ++ ys)))) W' | _ => False) K.ex | _ => False) := id rfl
theorem sRaise_ap (x : Str) (f : Env → M D) : sRaise x f env W K = f env W (fun d W' => K.ex ⟨x, [("value", d)]⟩ W') K.ex := id rfl
theorem gN_ap (i : Nat) (d : D) : gN i d env = some (env.set i (.v d)) := id rfl
theorem gT_ap (gr : List D → Env → Option Env) (ds : List D) : gT gr (.tup ds) env = gr ds env := id rfl
theorem gsC_ap (gf : Gt) (gr : List D → Env → Option Env) (d : D) (r : List D) : gsC gf gr (d :: r) env = (gf d env).bind (gr r) := id rfl
theorem gs0_ap : gs0 [] env = some env := id rfl
/-! ### loops -/
theorem forM_inv {gf : Gt} {s : SM} (I : Nat → Env → List MO → Prop) {ds : List D} (h0 : I 0 env W)
    (hs : ∀ i d e w (P : Env → List MO → Prop), ds[i]? = some d → I i e w → (∀ e' w', I (i + 1) e' w' → P e' w') → ∃ e2, gf d e = some e2 ∧ s e2 w (K.lp P)) (hn : ∀ e w, I ds.length e w → K.nx e w) : forM gf s ds env W K := by
  induction ds generalizing I env W with
  | nil => exact hn _ _ h0
  | cons d ds ih =>
    obtain ⟨e2, h1, h2⟩ := hs 0 d env W (fun e w => forM gf s ds e w K) rfl h0 fun e' w' h => ih (I := fun i => I (i + 1)) h (fun i d e w P hd hi hp => hs (i + 1) d e w P hd hi hp) hn
    rw [forM_cons, h1]
    exact h2
/-- a loop over what is of no state: it goes on, or ends the def -/
theorem while_inv {cf : Env → M Bool} {s : SM} (I : Nat → Env → List MO → Prop) {n : Nat} (h0 : I n env W) (hz : ∀ e w, I 0 e w → False)
    (hs : ∀ k e w (P : Env → List MO → Prop), I (k + 1) e w → (∀ e' w', I k e' w' → P e' w') → cf e w (fun b w' => if b = true then s e w' (K.lp P) else K.nx e w') K.ex) : sWhile cf s env W K := by
  refine ⟨n, ?_⟩
  induction n generalizing env W with
  | zero => exact (hz _ _ h0).elim
  | succ n ih =>
    have h := hs n env W (fun e w => whM cf s n e w K) h0 fun e' w' h => ih h
    have e : ∀ (b : Bool) (w : List MO), (match b with | true => s env w { K with nx := fun e w => whM cf s n e w K, ct := fun e w => whM cf s n e w K, bk := K.nx } | false => K.nx env w : Prop) = (if b = true then s env w (K.lp fun e w => whM cf s n e w K) else K.nx env w) := fun b w => by cases b <;> rfl
    show cf env W (fun b w => match b with | true => s env w { K with nx := fun e w => whM cf s n e w K, ct := fun e w => whM cf s n e w K, bk := K.nx } | false => K.nx env w) K.ex
    simp only [e]
    exact h
/-- a comprehension of plain parts -/
theorem compM_map {gf : Gt} {cf : Env → M Bool} {ef : Env → M D} {ew : Env} {p : D → Bool} {g : D → D} {E : Exn → List MO → Prop} {RL : List D → List MO → Prop} : ∀ {ds : List D},
    (∀ d ∈ ds, ∃ e, gf d ew = some e ∧ (∀ W (RB : Bool → List MO → Prop) E, RB (p d) W → cf e W RB E) ∧ (p d = true → ∀ W (R : D → List MO → Prop) E, R (g d) W → ef e W R E)) → RL ((ds.filter p).map g) W → compM gf cf ef ew ds W RL E
  | [], _, h => h
  | d :: ds, hd, h => by
    obtain ⟨e, h1, h2, h3⟩ := hd d List.mem_cons_self
    unfold compM
    rw [h1]
    refine h2 W _ E ?_
    cases hp : p d with
    | true =>
      refine h3 hp W _ E ?_
      refine compM_map (fun d' hd' => hd d' (List.mem_cons_of_mem _ hd')) ?_
      rw [List.filter_cons_of_pos hp] at h
      exact h
    | false =>
      refine compM_map (fun d' hd' => hd d' (List.mem_cons_of_mem _ hd')) ?_
      rw [List.filter_cons_of_neg (by rw [hp]; exact Bool.false_ne_true)] at h
      exact h
theorem compM_map1 {gf : Gt} {ef : Env → M D} {ew : Env} {g : D → D} {E : Exn → List MO → Prop} {RL : List D → List MO → Prop} {ds : List D}
    (h : ∀ d ∈ ds, ∃ e, gf d ew = some e ∧ ∀ W (R : D → List MO → Prop) E, R (g d) W → ef e W R E) (r : RL (ds.map g) W) : compM gf bYes ef ew ds W RL E :=
  compM_map (p := fun _ => true) (g := g) (fun d hd => let ⟨e, h1, h2⟩ := h d hd; ⟨e, h1, fun _ _ _ z => z, fun _ => h2⟩) (by rw [List.filter_eq_self.mpr fun _ _ => rfl]; exact r)
/-- a comprehension of parts that are what they will, of a kind -/
theorem compM_any {gf : Gt} {ef : Env → M D} {ew : Env} {E : Exn → List MO → Prop} {RL : List D → List MO → Prop} (Pd : D → Prop) : ∀ {ds : List D},
    (∀ d ∈ ds, ∃ e, gf d ew = some e ∧ ∀ (R : D → List MO → Prop) E, (∀ x, Pd x → R x W) → ef e W R E) → (∀ xs : List D, xs.length = ds.length → (∀ x ∈ xs, Pd x) → RL xs W) → compM gf bYes ef ew ds W RL E
  | [], _, h => h [] rfl fun _ z => nomatch z
  | d :: ds, hd, h => by
    obtain ⟨e, h1, h2⟩ := hd d List.mem_cons_self
    unfold compM
    rw [h1]
    refine h2 _ _ fun x hx => ?_
    refine compM_any Pd (fun d' hd' => hd d' (List.mem_cons_of_mem _ hd')) fun xs hl hxs => ?_
    exact h (x :: xs) (by rw [List.length_cons, List.length_cons, hl]) fun y hy => by
      rcases List.mem_cons.mp hy with rfl | hy
      · exact hx
      · exact hxs y hy
end
end Y

set_option maxRecDepth 100000
set_option maxHeartbeats 400000
namespace Y
open PySem PySem.Spec PyProof.Rows L2
open PySem.W (AllAlike Sortable dataLe dataLt)

/-! ### small facts of the readings' data -/
theorem isTy_NoneType_bool : isTy "NoneType" "bool" = false := by decide
theorem isTy_NoneType_int : isTy "NoneType" "int" = false := by decide
theorem isTy_NoneType_str : isTy "NoneType" "str" = false := by decide
theorem isTy_NoneType_list : isTy "NoneType" "list" = false := by decide
theorem isTy_NoneType_tuple : isTy "NoneType" "tuple" = false := by decide
theorem isTy_NoneType_dict : isTy "NoneType" "dict" = false := by decide
theorem isTy_bool_bool : isTy "bool" "bool" = true := by decide
theorem isTy_bool_int : isTy "bool" "int" = true := by decide
theorem isTy_bool_str : isTy "bool" "str" = false := by decide
theorem isTy_bool_list : isTy "bool" "list" = false := by decide
theorem isTy_bool_tuple : isTy "bool" "tuple" = false := by decide
theorem isTy_bool_dict : isTy "bool" "dict" = false := by decide
theorem isTy_int_bool : isTy "int" "bool" = false := by decide
theorem isTy_int_int : isTy "int" "int" = true := by decide
theorem isTy_int_str : isTy "int" "str" = false := by decide
theorem isTy_int_list : isTy "int" "list" = false := by decide
theorem isTy_int_tuple : isTy "int" "tuple" = false := by decide
theorem isTy_int_dict : isTy "int" "dict" = false := by decide
theorem isTy_str_bool : isTy "str" "bool" = false := by decide
theorem isTy_str_int : isTy "str" "int" = false := by decide
theorem isTy_str_str : isTy "str" "str" = true := by decide
theorem isTy_str_list : isTy "str" "list" = false := by decide
theorem isTy_str_tuple : isTy "str" "tuple" = false := by decide
theorem isTy_str_dict : isTy "str" "dict" = false := by decide
theorem isTy_list_bool : isTy "list" "bool" = false := by decide
theorem isTy_list_int : isTy "list" "int" = false := by decide
theorem isTy_list_str : isTy "list" "str" = false := by decide
theorem isTy_list_list : isTy "list" "list" = true := by decide
theorem isTy_list_tuple : isTy "list" "tuple" = false := by decide
theorem isTy_list_dict : isTy "list" "dict" = false := by decide
theorem isTy_tuple_bool : isTy "tuple" "bool" = false := by decide
theorem isTy_tuple_int : isTy "tuple" "int" = false := by decide
theorem isTy_tuple_str : isTy "tuple" "str" = false := by decide
theorem isTy_tuple_list : isTy "tuple" "list" = false := by decide
theorem isTy_tuple_tuple : isTy "tuple" "tuple" = true := by decide
theorem isTy_tuple_dict : isTy "tuple" "dict" = false := by decide
theorem isTy_dict_bool : isTy "dict" "bool" = false := by decide
theorem isTy_dict_int : isTy "dict" "int" = false := by decide
theorem isTy_dict_str : isTy "dict" "str" = false := by decide
theorem isTy_dict_list : isTy "dict" "list" = false := by decide
theorem isTy_dict_tuple : isTy "dict" "tuple" = false := by decide
theorem isTy_dict_dict : isTy "dict" "dict" = true := by decide
theorem dLen_lst (xs : List D) : dLen (.lst xs) = ret (.int (xs.length : Nat)) := id rfl
theorem dLen_tup (xs : List D) : dLen (.tup xs) = ret (.int (xs.length : Nat)) := id rfl
theorem dLen_dct (xs : List (Key × D)) : dLen (.dct xs) = ret (.int (xs.length : Nat)) := id rfl
theorem dLen_str (s : Str) : dLen (.str s) = ret (.int (s.length : Nat)) := id rfl
theorem dAdd_ii (a b : Int) : dAdd (.int a) (.int b) = ret (.int (a + b)) := id rfl
theorem dAdd_ss (a b : Str) : dAdd (.str a) (.str b) = ask (a.length + b.length ≤ sizeLine) (ret (.str (a ++ b))) := id rfl
theorem dAdd_ll (a b : List D) : dAdd (.lst a) (.lst b) = ask (a.length + b.length ≤ sizeLine) (ret (.lst (a ++ b))) := id rfl
theorem dAdd_tt (a b : List D) : dAdd (.tup a) (.tup b) = ask (a.length + b.length ≤ sizeLine) (ret (.tup (a ++ b))) := id rfl
theorem dSub_ii (a b : Int) : dSub (.int a) (.int b) = ret (.int (a - b)) := id rfl
theorem dMul_ii (a b : Int) : dMul (.int a) (.int b) = ask (CMul a b) (ret (.int (a * b))) := id rfl
theorem dMul_li (a : List D) (k : Int) : dMul (.lst a) (.int k) = ask (-(2 ^ 63) ≤ k ∧ k < 2 ^ 63 ∧ a.length * k.toNat ≤ sizeLine) (ret (.lst (List.replicate k.toNat a).flatten)) := id rfl
theorem dFdiv_ii (a b : Int) : dFdiv (.int a) (.int b) = ask (CDiv a b) (ret (.int (a / b))) := id rfl
theorem dMod_ii (a b : Int) : dMod (.int a) (.int b) = ask (0 < b) (ret (.int (a % b))) := id rfl
theorem dPow_ii (a b : Int) : dPow (.int a) (.int b) = ask (CPow a b) (ret (.int (a ^ b.toNat))) := id rfl
theorem dNeg_i (a : Int) : dNeg (.int a) = ret (.int (-a)) := id rfl
theorem dCmp_ii (p : Int → Int → Bool) (a b : Int) : dCmp p (.int a) (.int b) = ret (.bl (p a b)) := id rfl
theorem dSum_l (xs : List D) (W : List MO) (R : D → List MO → Prop) (E : Exn → List MO → Prop) : dSum (.lst xs) W R E = (∃ ns : List Int, xs = ns.map .int ∧ R (.int ns.sum) W) := id rfl
theorem dAll_l (xs : List D) (W : List MO) (R : D → List MO → Prop) (E : Exn → List MO → Prop) : dAll (.lst xs) W R E = (∃ bs : List Bool, xs = bs.map .bl ∧ R (.bl (bs.all id)) W) := id rfl
theorem dAny_l (xs : List D) (W : List MO) (R : D → List MO → Prop) (E : Exn → List MO → Prop) : dAny (.lst xs) W R E = (∃ bs : List Bool, xs = bs.map .bl ∧ R (.bl (bs.any id)) W) := id rfl
theorem dAbs_i (i : Int) : dAbs (.int i) = ret (.int (if i < 0 then -i else i)) := id rfl
theorem dInt_i (i : Int) : dInt (.int i) = ret (.int i) := id rfl
theorem dInt_b (b : Bool) : dInt (.bl b) = ret (.int (if b then 1 else 0)) := id rfl
theorem dList_l (xs : List D) : dList (.lst xs) = ret (.lst xs) := id rfl
theorem dList_t (xs : List D) : dList (.tup xs) = ret (.lst xs) := id rfl
theorem dTuple_l (xs : List D) : dTuple (.lst xs) = ret (.tup xs) := id rfl
theorem dTuple_t (xs : List D) : dTuple (.tup xs) = ret (.tup xs) := id rfl
theorem dMax2_ii (i j : Int) : dMax2 (.int i) (.int j) = ret (.int (if j > i then j else i)) := id rfl
theorem dMin2_ii (i j : Int) : dMin2 (.int i) (.int j) = ret (.int (if j < i then j else i)) := id rfl
theorem dAddI_ii (i j : Int) : dAddI (.int i) (.int j) = ret (.int (i + j)) := id rfl
theorem dRev_l (xs : List D) : dRev (.lst xs) = ret (.lst xs.reverse) := id rfl
theorem dIx_l (xs : List D) (i : Int) : dIx (.lst xs) (.int i) = orFail (atI xs i) := id rfl
theorem dIx_t (xs : List D) (i : Int) : dIx (.tup xs) (.int i) = orFail (atI xs i) := id rfl
theorem dIx_d (xs : List (Key × D)) (k : D) : dIx (.dct xs) k = orFail (k.key.bind (getK xs)) := id rfl
theorem orFail_some {α : Type} (a : α) : orFail (some a) = ret a := id rfl
theorem orFail_none {α : Type} : (orFail (none : Option α)) = fail := id rfl
theorem tru_non  : D.tru .non = some false := id rfl
theorem ty_non  : D.ty .non = some "NoneType" := id rfl
theorem tru_bl (b : Bool) : D.tru (.bl b) = some b := id rfl
theorem ty_bl (b : Bool) : D.ty (.bl b) = some "bool" := id rfl
theorem tru_int (i : Int) : D.tru (.int i) = some (i != 0) := id rfl
theorem ty_int (i : Int) : D.ty (.int i) = some "int" := id rfl
theorem tru_str (s : Str) : D.tru (.str s) = some ((s.length : Int) != 0) := id rfl
theorem ty_str (s : Str) : D.ty (.str s) = some "str" := id rfl
theorem tru_lst (xs : List D) : D.tru (.lst xs) = some (!xs.isEmpty) := id rfl
theorem ty_lst (xs : List D) : D.ty (.lst xs) = some "list" := id rfl
theorem tru_tup (xs : List D) : D.tru (.tup xs) = some (!xs.isEmpty) := id rfl
theorem ty_tup (xs : List D) : D.ty (.tup xs) = some "tuple" := id rfl
theorem tru_dct (xs : List (Key × D)) : D.tru (.dct xs) = some (!xs.isEmpty) := id rfl
theorem ty_dct (xs : List (Key × D)) : D.ty (.dct xs) = some "dict" := id rfl
theorem its_lst (xs : List D) : D.its (.lst xs) = some xs := id rfl
theorem items_lst (xs : List D) : D.items (.lst xs) = some xs := id rfl
theorem its_tup (xs : List D) : D.its (.tup xs) = some xs := id rfl
theorem items_tup (xs : List D) : D.items (.tup xs) = some xs := id rfl
theorem isL_l (xs : List D) : D.isL (.lst xs) = true := id rfl
theorem isN_non : D.isN .non = true := id rfl
theorem isN_bl (b : Bool) : D.isN (.bl b) = false := id rfl
theorem isN_int (b : Int) : D.isN (.int b) = false := id rfl
theorem isN_str (b : Str) : D.isN (.str b) = false := id rfl
theorem isN_lst (b : List D) : D.isN (.lst b) = false := id rfl
theorem isN_tup (b : List D) : D.isN (.tup b) = false := id rfl
theorem isN_dct (b : List (Key × D)) : D.isN (.dct b) = false := id rfl
theorem isN_fn (b : Str) : D.isN (.fn b) = false := id rfl
theorem isN_row : D.isN .row = false := id rfl
theorem small_len {n : Nat} (h : n ≤ 1000) : n ≤ sizeLine := Nat.le_trans h (by decide)
theorem small_leni' {n : Int} (h : n ≤ 1000000) : n ≤ (sizeLine : Nat) := Int.le_trans h (by decide)
theorem small_leni {n : Int} (h : n ≤ 1000) : n ≤ (sizeLine : Nat) := Int.le_trans h (by decide)
theorem small62_of {i : Int} (h : -1000000000 ≤ i) (h2 : i ≤ 1000000000) : small62 i := ⟨by omega, by omega⟩
theorem CMul_of {i j : Int} (h : -1000000000000 ≤ i) (h2 : i ≤ 1000000000000) : CMul i j := .inl ⟨by omega, by omega⟩
theorem enumD_get (ds : List D) (i : Nat) : (enumD ds)[i]? = (ds[i]?).map fun x => .tup [.int (i : Nat), x] := by
  unfold enumD
  rw [List.getElem?_map, List.getElem?_zipIdx]
  cases ds[i]? with
  | none => rfl
  | some x => simp
theorem rangeD_get (lo : Int) (n i : Nat) : (rangeD lo n)[i]? = if i < n then some (.int (lo + (i : Int))) else none := by
  unfold rangeD
  rw [List.getElem?_map]
  by_cases h : i < n
  · rw [if_pos h, List.getElem?_range h]; rfl
  · rw [if_neg h, List.getElem?_eq_none (by rw [List.length_range]; omega)]; rfl
theorem enumD_length (ds : List D) : (enumD ds).length = ds.length := by unfold enumD; rw [List.length_map, List.length_zipIdx]
theorem rangeD_length (lo : Int) (n : Nat) : (rangeD lo n).length = n := by unfold rangeD; rw [List.length_map, List.length_range]
theorem atI_nat {α : Type} (xs : List α) (i : Nat) : atI xs (i : Int) = xs[i]? := by
  unfold atI ixN
  by_cases h : i < xs.length
  · rw [if_pos (by omega), if_pos (by omega)]; simp
  · rw [if_pos (by omega), if_neg (by omega), List.getElem?_eq_none (by omega)]; rfl
theorem atI_last {α : Type} (xs : List α) (x : α) : atI (xs ++ [x]) (-1) = some x := by
  unfold atI ixN
  rw [if_neg (by omega), if_pos (by simp; omega)]
  show (xs ++ [x])[(-1 + ((xs ++ [x]).length : Int)).toNat]? = some x
  rw [List.length_append, show (-1 + ((xs.length + [x].length : Nat) : Int)).toNat = xs.length by simp only [List.length_cons, List.length_nil]; omega]
  simp
/-! whole numbers told by their kind -/
def D.isInt : D → Bool
  | .int _ => true
  | _ => false
section
variable {W : List MO} {R : D → List MO → Prop} {E : Exn → List MO → Prop}
def smInt : SM := sRet (vAnd (eIsi "int" (eName 0)) (vNot (eIsi "bool" (eName 0))))
theorem isInt_ap (d : D) (h : d.ty.isSome = true) : semF ["thing"] smInt [d] W R E = R (.bl d.isInt) W := by
  show smInt [.v d] W (kS R E) = _
  unfold smInt
  cases d <;> first | (simp only [ret_ap, bnd_ap, ask_ap, fail_ap, noE_ap, eName_ap, eOwn_ap, eC_ap, e1_ap, e2_ap, e2g_ap, e3_ap, tst_ap, bAnd_ap, bOr_ap, bNot_ap, bYes_ap, vAnd_ap, vOr_ap, vNot_ap, tru_ap, eIf_ap, aNil_ap, aCons_ap, aStar_ap, eTup_ap, eLst_ap, eTupS_ap, eLstS_ap, eCall_ap, eRef_ap, eIsi_ap, eIsi2_ap, iSeq_ap, iEn_ap, iR1_ap, iR2_ap, iR3_ap, eLc_ap, sNil_ap, sSeq_ap, sFrz_ap, sExpr_ap, sRet_ap, sAsg_ap, sOwn_ap, sIf_ap, sFor_ap, sAug_ap, sApp_ap, sExt_ap, sRaise_ap, gN_ap, gT_ap, gsC_ap, gs0_ap, sq_rt, sq_ex, sq_bk, sq_ct, lp_rt, lp_ex, lp_bk, lp_ct, lp_nx, kS_rt, kS_ex, kS_nx, List.getElem?_cons_zero, List.getElem?_cons_succ, List.set_cons_zero, List.set_cons_succ, Option.bind_some, dLen_lst, dLen_tup, dLen_dct, dLen_str, dAdd_ii, dAdd_ss, dAdd_ll, dAdd_tt, dSub_ii, dMul_ii, dMul_li, dFdiv_ii, dMod_ii, dPow_ii, dNeg_i, dCmp_ii, dSum_l, dAll_l, dAny_l, dAbs_i, dInt_i, dInt_b, dList_l, dList_t, dTuple_l, dTuple_t, dMax2_ii, dMin2_ii, dAddI_ii, dRev_l, dIx_l, dIx_t, dIx_d, orFail_some, orFail_none, tru_non, ty_non, tru_bl, ty_bl, tru_int, ty_int, tru_str, ty_str, tru_lst, ty_lst, tru_tup, ty_tup, tru_dct, ty_dct, its_lst, items_lst, its_tup, items_tup, isL_l, dIsN, dNotN, if_true, if_false, Bool.not_true, Bool.not_false, true_and, and_true, wipeE, isTy_NoneType_bool, isTy_NoneType_int, isTy_NoneType_str, isTy_NoneType_list, isTy_NoneType_tuple, isTy_NoneType_dict, isTy_bool_bool, isTy_bool_int, isTy_bool_str, isTy_bool_list, isTy_bool_tuple, isTy_bool_dict, isTy_int_bool, isTy_int_int, isTy_int_str, isTy_int_list, isTy_int_tuple, isTy_int_dict, isTy_str_bool, isTy_str_int, isTy_str_str, isTy_str_list, isTy_str_tuple, isTy_str_dict, isTy_list_bool, isTy_list_int, isTy_list_str, isTy_list_list, isTy_list_tuple, isTy_list_dict, isTy_tuple_bool, isTy_tuple_int, isTy_tuple_str, isTy_tuple_list, isTy_tuple_tuple, isTy_tuple_dict, isTy_dict_bool, isTy_dict_int, isTy_dict_str, isTy_dict_list, isTy_dict_tuple, isTy_dict_dict, Bool.or_true, Bool.or_false, Bool.true_or, Bool.false_or, reduceCtorEq, eq_self, ↓reduceIte, D.isInt]; done) | exact absurd h (by simp [D.ty])
def cInt : List D → M D := semF ["thing"] smInt
def smWithin : SM := sRet (vAnd (eCall cInt (aCons (eName 0) aNil)) (e3 dLe dLe (eName 1) (eName 0) (eName 2)))
/-- is_within of any value -/
def D.within (lo hi : Int) : D → Bool
  | .int i => decide (lo ≤ i) && decide (i ≤ hi)
  | _ => false
theorem within_ap (d : D) (lo hi : Int) (h : d.ty.isSome = true) : semF ["thing", "least", "most"] smWithin [d, .int lo, .int hi] W R E = R (.bl (d.within lo hi)) W := by
  show smWithin [.v d, .v (.int lo), .v (.int hi)] W (kS R E) = _
  unfold smWithin cInt
  simp only [ret_ap, bnd_ap, ask_ap, fail_ap, noE_ap, eName_ap, eOwn_ap, eC_ap, e1_ap, e2_ap, e2g_ap, e3_ap, tst_ap, bAnd_ap, bOr_ap, bNot_ap, bYes_ap, vAnd_ap, vOr_ap, vNot_ap, tru_ap, eIf_ap, aNil_ap, aCons_ap, aStar_ap, eTup_ap, eLst_ap, eTupS_ap, eLstS_ap, eCall_ap, eRef_ap, eIsi_ap, eIsi2_ap, iSeq_ap, iEn_ap, iR1_ap, iR2_ap, iR3_ap, eLc_ap, sNil_ap, sSeq_ap, sFrz_ap, sExpr_ap, sRet_ap, sAsg_ap, sOwn_ap, sIf_ap, sFor_ap, sAug_ap, sApp_ap, sExt_ap, sRaise_ap, gN_ap, gT_ap, gsC_ap, gs0_ap, sq_rt, sq_ex, sq_bk, sq_ct, lp_rt, lp_ex, lp_bk, lp_ct, lp_nx, kS_rt, kS_ex, kS_nx, List.getElem?_cons_zero, List.getElem?_cons_succ, List.set_cons_zero, List.set_cons_succ, Option.bind_some, dLen_lst, dLen_tup, dLen_dct, dLen_str, dAdd_ii, dAdd_ss, dAdd_ll, dAdd_tt, dSub_ii, dMul_ii, dMul_li, dFdiv_ii, dMod_ii, dPow_ii, dNeg_i, dCmp_ii, dSum_l, dAll_l, dAny_l, dAbs_i, dInt_i, dInt_b, dList_l, dList_t, dTuple_l, dTuple_t, dMax2_ii, dMin2_ii, dAddI_ii, dRev_l, dIx_l, dIx_t, dIx_d, orFail_some, orFail_none, tru_non, ty_non, tru_bl, ty_bl, tru_int, ty_int, tru_str, ty_str, tru_lst, ty_lst, tru_tup, ty_tup, tru_dct, ty_dct, its_lst, items_lst, its_tup, items_tup, isL_l, dIsN, dNotN, if_true, if_false, Bool.not_true, Bool.not_false, true_and, and_true, wipeE, isTy_NoneType_bool, isTy_NoneType_int, isTy_NoneType_str, isTy_NoneType_list, isTy_NoneType_tuple, isTy_NoneType_dict, isTy_bool_bool, isTy_bool_int, isTy_bool_str, isTy_bool_list, isTy_bool_tuple, isTy_bool_dict, isTy_int_bool, isTy_int_int, isTy_int_str, isTy_int_list, isTy_int_tuple, isTy_int_dict, isTy_str_bool, isTy_str_int, isTy_str_str, isTy_str_list, isTy_str_tuple, isTy_str_dict, isTy_list_bool, isTy_list_int, isTy_list_str, isTy_list_list, isTy_list_tuple, isTy_list_dict, isTy_tuple_bool, isTy_tuple_int, isTy_tuple_str, isTy_tuple_list, isTy_tuple_tuple, isTy_tuple_dict, isTy_dict_bool, isTy_dict_int, isTy_dict_str, isTy_dict_list, isTy_dict_tuple, isTy_dict_dict, Bool.or_true, Bool.or_false, Bool.true_or, Bool.false_or, reduceCtorEq, eq_self, ↓reduceIte]
  rw [isInt_ap d h]
  cases d with
  | int i =>
    simp only [ret_ap, bnd_ap, ask_ap, fail_ap, noE_ap, eName_ap, eOwn_ap, eC_ap, e1_ap, e2_ap, e2g_ap, e3_ap, tst_ap, bAnd_ap, bOr_ap, bNot_ap, bYes_ap, vAnd_ap, vOr_ap, vNot_ap, tru_ap, eIf_ap, aNil_ap, aCons_ap, aStar_ap, eTup_ap, eLst_ap, eTupS_ap, eLstS_ap, eCall_ap, eRef_ap, eIsi_ap, eIsi2_ap, iSeq_ap, iEn_ap, iR1_ap, iR2_ap, iR3_ap, eLc_ap, sNil_ap, sSeq_ap, sFrz_ap, sExpr_ap, sRet_ap, sAsg_ap, sOwn_ap, sIf_ap, sFor_ap, sAug_ap, sApp_ap, sExt_ap, sRaise_ap, gN_ap, gT_ap, gsC_ap, gs0_ap, sq_rt, sq_ex, sq_bk, sq_ct, lp_rt, lp_ex, lp_bk, lp_ct, lp_nx, kS_rt, kS_ex, kS_nx, List.getElem?_cons_zero, List.getElem?_cons_succ, List.set_cons_zero, List.set_cons_succ, Option.bind_some, dLen_lst, dLen_tup, dLen_dct, dLen_str, dAdd_ii, dAdd_ss, dAdd_ll, dAdd_tt, dSub_ii, dMul_ii, dMul_li, dFdiv_ii, dMod_ii, dPow_ii, dNeg_i, dCmp_ii, dSum_l, dAll_l, dAny_l, dAbs_i, dInt_i, dInt_b, dList_l, dList_t, dTuple_l, dTuple_t, dMax2_ii, dMin2_ii, dAddI_ii, dRev_l, dIx_l, dIx_t, dIx_d, orFail_some, orFail_none, tru_non, ty_non, tru_bl, ty_bl, tru_int, ty_int, tru_str, ty_str, tru_lst, ty_lst, tru_tup, ty_tup, tru_dct, ty_dct, its_lst, items_lst, its_tup, items_tup, isL_l, dIsN, dNotN, if_true, if_false, Bool.not_true, Bool.not_false, true_and, and_true, wipeE, isTy_NoneType_bool, isTy_NoneType_int, isTy_NoneType_str, isTy_NoneType_list, isTy_NoneType_tuple, isTy_NoneType_dict, isTy_bool_bool, isTy_bool_int, isTy_bool_str, isTy_bool_list, isTy_bool_tuple, isTy_bool_dict, isTy_int_bool, isTy_int_int, isTy_int_str, isTy_int_list, isTy_int_tuple, isTy_int_dict, isTy_str_bool, isTy_str_int, isTy_str_str, isTy_str_list, isTy_str_tuple, isTy_str_dict, isTy_list_bool, isTy_list_int, isTy_list_str, isTy_list_list, isTy_list_tuple, isTy_list_dict, isTy_tuple_bool, isTy_tuple_int, isTy_tuple_str, isTy_tuple_list, isTy_tuple_tuple, isTy_tuple_dict, isTy_dict_bool, isTy_dict_int, isTy_dict_str, isTy_dict_list, isTy_dict_tuple, isTy_dict_dict, Bool.or_true, Bool.or_false, Bool.true_or, Bool.false_or, reduceCtorEq, eq_self, ↓reduceIte, D.isInt, D.within]
    by_cases h1 : lo ≤ i
    · rw [decide_eq_true h1, Bool.true_and]
    · rw [decide_eq_false h1, Bool.false_and]
  | _ => simp only [ret_ap, bnd_ap, ask_ap, fail_ap, noE_ap, eName_ap, eOwn_ap, eC_ap, e1_ap, e2_ap, e2g_ap, e3_ap, tst_ap, bAnd_ap, bOr_ap, bNot_ap, bYes_ap, vAnd_ap, vOr_ap, vNot_ap, tru_ap, eIf_ap, aNil_ap, aCons_ap, aStar_ap, eTup_ap, eLst_ap, eTupS_ap, eLstS_ap, eCall_ap, eRef_ap, eIsi_ap, eIsi2_ap, iSeq_ap, iEn_ap, iR1_ap, iR2_ap, iR3_ap, eLc_ap, sNil_ap, sSeq_ap, sFrz_ap, sExpr_ap, sRet_ap, sAsg_ap, sOwn_ap, sIf_ap, sFor_ap, sAug_ap, sApp_ap, sExt_ap, sRaise_ap, gN_ap, gT_ap, gsC_ap, gs0_ap, sq_rt, sq_ex, sq_bk, sq_ct, lp_rt, lp_ex, lp_bk, lp_ct, lp_nx, kS_rt, kS_ex, kS_nx, List.getElem?_cons_zero, List.getElem?_cons_succ, List.set_cons_zero, List.set_cons_succ, Option.bind_some, dLen_lst, dLen_tup, dLen_dct, dLen_str, dAdd_ii, dAdd_ss, dAdd_ll, dAdd_tt, dSub_ii, dMul_ii, dMul_li, dFdiv_ii, dMod_ii, dPow_ii, dNeg_i, dCmp_ii, dSum_l, dAll_l, dAny_l, dAbs_i, dInt_i, dInt_b, dList_l, dList_t, dTuple_l, dTuple_t, dMax2_ii, dMin2_ii, dAddI_ii, dRev_l, dIx_l, dIx_t, dIx_d, orFail_some, orFail_none, tru_non, ty_non, tru_bl, ty_bl, tru_int, ty_int, tru_str, ty_str, tru_lst, ty_lst, tru_tup, ty_tup, tru_dct, ty_dct, its_lst, items_lst, its_tup, items_tup, isL_l, dIsN, dNotN, if_true, if_false, Bool.not_true, Bool.not_false, true_and, and_true, wipeE, isTy_NoneType_bool, isTy_NoneType_int, isTy_NoneType_str, isTy_NoneType_list, isTy_NoneType_tuple, isTy_NoneType_dict, isTy_bool_bool, isTy_bool_int, isTy_bool_str, isTy_bool_list, isTy_bool_tuple, isTy_bool_dict, isTy_int_bool, isTy_int_int, isTy_int_str, isTy_int_list, isTy_int_tuple, isTy_int_dict, isTy_str_bool, isTy_str_int, isTy_str_str, isTy_str_list, isTy_str_tuple, isTy_str_dict, isTy_list_bool, isTy_list_int, isTy_list_str, isTy_list_list, isTy_list_tuple, isTy_list_dict, isTy_tuple_bool, isTy_tuple_int, isTy_tuple_str, isTy_tuple_list, isTy_tuple_tuple, isTy_tuple_dict, isTy_dict_bool, isTy_dict_int, isTy_dict_str, isTy_dict_list, isTy_dict_tuple, isTy_dict_dict, Bool.or_true, Bool.or_false, Bool.true_or, Bool.false_or, reduceCtorEq, eq_self, ↓reduceIte, D.isInt, D.within]
def smRow : SM := sRet (eIsi2 "list" "tuple" (eName 0))
def D.isRow : D → Bool
  | .lst _ => true
  | .tup _ => true
  | _ => false
theorem isRow_ap (d : D) (h : d.ty.isSome = true) : semF ["thing"] smRow [d] W R E = R (.bl d.isRow) W := by
  show smRow [.v d] W (kS R E) = _
  unfold smRow
  cases d <;> first | (simp only [ret_ap, bnd_ap, ask_ap, fail_ap, noE_ap, eName_ap, eOwn_ap, eC_ap, e1_ap, e2_ap, e2g_ap, e3_ap, tst_ap, bAnd_ap, bOr_ap, bNot_ap, bYes_ap, vAnd_ap, vOr_ap, vNot_ap, tru_ap, eIf_ap, aNil_ap, aCons_ap, aStar_ap, eTup_ap, eLst_ap, eTupS_ap, eLstS_ap, eCall_ap, eRef_ap, eIsi_ap, eIsi2_ap, iSeq_ap, iEn_ap, iR1_ap, iR2_ap, iR3_ap, eLc_ap, sNil_ap, sSeq_ap, sFrz_ap, sExpr_ap, sRet_ap, sAsg_ap, sOwn_ap, sIf_ap, sFor_ap, sAug_ap, sApp_ap, sExt_ap, sRaise_ap, gN_ap, gT_ap, gsC_ap, gs0_ap, sq_rt, sq_ex, sq_bk, sq_ct, lp_rt, lp_ex, lp_bk, lp_ct, lp_nx, kS_rt, kS_ex, kS_nx, List.getElem?_cons_zero, List.getElem?_cons_succ, List.set_cons_zero, List.set_cons_succ, Option.bind_some, dLen_lst, dLen_tup, dLen_dct, dLen_str, dAdd_ii, dAdd_ss, dAdd_ll, dAdd_tt, dSub_ii, dMul_ii, dMul_li, dFdiv_ii, dMod_ii, dPow_ii, dNeg_i, dCmp_ii, dSum_l, dAll_l, dAny_l, dAbs_i, dInt_i, dInt_b, dList_l, dList_t, dTuple_l, dTuple_t, dMax2_ii, dMin2_ii, dAddI_ii, dRev_l, dIx_l, dIx_t, dIx_d, orFail_some, orFail_none, tru_non, ty_non, tru_bl, ty_bl, tru_int, ty_int, tru_str, ty_str, tru_lst, ty_lst, tru_tup, ty_tup, tru_dct, ty_dct, its_lst, items_lst, its_tup, items_tup, isL_l, dIsN, dNotN, if_true, if_false, Bool.not_true, Bool.not_false, true_and, and_true, wipeE, isTy_NoneType_bool, isTy_NoneType_int, isTy_NoneType_str, isTy_NoneType_list, isTy_NoneType_tuple, isTy_NoneType_dict, isTy_bool_bool, isTy_bool_int, isTy_bool_str, isTy_bool_list, isTy_bool_tuple, isTy_bool_dict, isTy_int_bool, isTy_int_int, isTy_int_str, isTy_int_list, isTy_int_tuple, isTy_int_dict, isTy_str_bool, isTy_str_int, isTy_str_str, isTy_str_list, isTy_str_tuple, isTy_str_dict, isTy_list_bool, isTy_list_int, isTy_list_str, isTy_list_list, isTy_list_tuple, isTy_list_dict, isTy_tuple_bool, isTy_tuple_int, isTy_tuple_str, isTy_tuple_list, isTy_tuple_tuple, isTy_tuple_dict, isTy_dict_bool, isTy_dict_int, isTy_dict_str, isTy_dict_list, isTy_dict_tuple, isTy_dict_dict, Bool.or_true, Bool.or_false, Bool.true_or, Bool.false_or, reduceCtorEq, eq_self, ↓reduceIte, D.isRow]; done) | exact absurd h (by simp [D.ty])
/-- one of a list by a draw -/
def smPick : SM := sRet (e2 dIx (eName 1) (eCall sTaken (aCons (eName 0) (aCons (e1 dLen (eName 1)) aNil))))
theorem pick_ap (ds : List D) (h0 : ds ≠ []) (h1 : ds.length < 1000000) (h : ∀ d ∈ ds, R d W) : semF ["row", "some"] smPick [.row, .lst ds] W R E := by
  show smPick [.v .row, .v (.lst ds)] W (kS R E)
  unfold smPick
  simp only [ret_ap, bnd_ap, ask_ap, fail_ap, noE_ap, eName_ap, eOwn_ap, eC_ap, e1_ap, e2_ap, e2g_ap, e3_ap, tst_ap, bAnd_ap, bOr_ap, bNot_ap, bYes_ap, vAnd_ap, vOr_ap, vNot_ap, tru_ap, eIf_ap, aNil_ap, aCons_ap, aStar_ap, eTup_ap, eLst_ap, eTupS_ap, eLstS_ap, eCall_ap, eRef_ap, eIsi_ap, eIsi2_ap, iSeq_ap, iEn_ap, iR1_ap, iR2_ap, iR3_ap, eLc_ap, sNil_ap, sSeq_ap, sFrz_ap, sExpr_ap, sRet_ap, sAsg_ap, sOwn_ap, sIf_ap, sFor_ap, sAug_ap, sApp_ap, sExt_ap, sRaise_ap, gN_ap, gT_ap, gsC_ap, gs0_ap, sq_rt, sq_ex, sq_bk, sq_ct, lp_rt, lp_ex, lp_bk, lp_ct, lp_nx, kS_rt, kS_ex, kS_nx, List.getElem?_cons_zero, List.getElem?_cons_succ, List.set_cons_zero, List.set_cons_succ, Option.bind_some, dLen_lst, dLen_tup, dLen_dct, dLen_str, dAdd_ii, dAdd_ss, dAdd_ll, dAdd_tt, dSub_ii, dMul_ii, dMul_li, dFdiv_ii, dMod_ii, dPow_ii, dNeg_i, dCmp_ii, dSum_l, dAll_l, dAny_l, dAbs_i, dInt_i, dInt_b, dList_l, dList_t, dTuple_l, dTuple_t, dMax2_ii, dMin2_ii, dAddI_ii, dRev_l, dIx_l, dIx_t, dIx_d, orFail_some, orFail_none, tru_non, ty_non, tru_bl, ty_bl, tru_int, ty_int, tru_str, ty_str, tru_lst, ty_lst, tru_tup, ty_tup, tru_dct, ty_dct, its_lst, items_lst, its_tup, items_tup, isL_l, dIsN, dNotN, if_true, if_false, Bool.not_true, Bool.not_false, true_and, and_true, wipeE, isTy_NoneType_bool, isTy_NoneType_int, isTy_NoneType_str, isTy_NoneType_list, isTy_NoneType_tuple, isTy_NoneType_dict, isTy_bool_bool, isTy_bool_int, isTy_bool_str, isTy_bool_list, isTy_bool_tuple, isTy_bool_dict, isTy_int_bool, isTy_int_int, isTy_int_str, isTy_int_list, isTy_int_tuple, isTy_int_dict, isTy_str_bool, isTy_str_int, isTy_str_str, isTy_str_list, isTy_str_tuple, isTy_str_dict, isTy_list_bool, isTy_list_int, isTy_list_str, isTy_list_list, isTy_list_tuple, isTy_list_dict, isTy_tuple_bool, isTy_tuple_int, isTy_tuple_str, isTy_tuple_list, isTy_tuple_tuple, isTy_tuple_dict, isTy_dict_bool, isTy_dict_int, isTy_dict_str, isTy_dict_list, isTy_dict_tuple, isTy_dict_dict, Bool.or_true, Bool.or_false, Bool.true_or, Bool.false_or, reduceCtorEq, eq_self, ↓reduceIte, taken_ap]
  refine ⟨⟨by have := List.length_pos_iff.mpr h0; omega, by omega⟩, fun n h2 h3 => ?_⟩
  obtain ⟨k, rfl⟩ := Int.eq_ofNat_of_zero_le h2
  rw [atI_nat, List.getElem?_eq_getElem (by omega)]
  exact h _ (List.getElem_mem _)
end
/-! ### the first of a kind in sorted lists -/
theorem find_le {α : Type} {le : α → α → Bool} (p : α → Bool) : ∀ {l : List α} {x y : α}, l.Pairwise (fun a b => le a b = true) → l.find? p = some x → y ∈ l → p y = true → x = y ∨ le x y = true
  | a :: l, x, y, h, hf, hy, hp => by
    rw [List.pairwise_cons] at h
    rw [List.find?_cons] at hf
    cases q : p a with
    | true =>
      rw [q] at hf
      cases hf
      rcases List.mem_cons.mp hy with rfl | hy
      · exact .inl rfl
      · exact .inr (h.1 y hy)
    | false =>
      rw [q] at hf
      rcases List.mem_cons.mp hy with rfl | hy
      · rw [q] at hp; cases hp
      · exact find_le p h.2 hf hy hp
theorem find_sorted {α : Type} {le : α → α → Bool} (p : α → Bool) {l1 l2 : List α} (h1 : l1.Pairwise (fun a b => le a b = true)) (h2 : l2.Pairwise (fun a b => le a b = true)) (hm : ∀ x, p x = true → (x ∈ l1 ↔ x ∈ l2))
    (anti : ∀ x y, p x = true → p y = true → le x y = true → le y x = true → x = y) : l1.find? p = l2.find? p := by
  cases e1 : l1.find? p with
  | none =>
    symm
    rw [List.find?_eq_none] at e1 ⊢
    intro x hx hp
    exact e1 x ((hm x hp).mpr hx) hp
  | some x =>
    have px : p x = true := List.find?_some e1
    have mx : x ∈ l1 := List.mem_of_find?_eq_some e1
    cases e2 : l2.find? p with
    | none =>
      rw [List.find?_eq_none] at e2
      exact absurd px (e2 x ((hm x px).mp mx))
    | some y =>
      have py : p y = true := List.find?_some e2
      have my : y ∈ l2 := List.mem_of_find?_eq_some e2
      rcases find_le p h1 e1 ((hm y py).mpr my) py with h | h
      · rw [h]
      · rcases find_le p h2 e2 ((hm x px).mp mx) px with h' | h'
        · rw [h']
        · rw [anti x y px py h h']
theorem dLeS_total (rev : Bool) : PySem.W.TotalLe (dLeS rev) := PySem.W.sortLe_total (PyProof.Rows.listOrd PyProof.Rows.itemOrd) rev fun b => PySem.W.keyToks (D.toP b)
theorem mergeSort_sorted (rev : Bool) {α : Type} (f : α → D) (l : List α) : (l.mergeSort fun a b => dLeS rev (f a) (f b)).Pairwise fun a b => dLeS rev (f a) (f b) = true :=
  List.pairwise_mergeSort (le := fun a b => dLeS rev (f a) (f b)) (fun a b c h1 h2 => (dLeS_total rev).trans (f a) (f b) (f c) h1 h2) (fun a b => by
    rw [Bool.or_eq_true]
    exact (dLeS_total rev).total (f a) (f b)) l
theorem sortD_map (rev : Bool) {α : Type} (f : α → D) (l : List α) : sortD rev (l.map f) = (l.mergeSort fun a b => dLeS rev (f a) (f b)).map f :=
  (List.map_mergeSort (f := f) (r := fun a b => dLeS rev (f a) (f b)) (s := dLeS rev) (fun a _ b _ => rfl)).symm
/-! ### a loop that looks for the first thing of a kind and leaves with it -/
theorem forM_find {gf : Gt} {s : SM} {K : Ks} {W : List MO} {ds : List D} {env : Env} (Q : Env → Prop) (bad : Nat → D → Bool) (out : Nat → D → Prop) (h0 : Q env)
    (hs : ∀ i d e (P : Env → List MO → Prop), ds[i]? = some d → Q e → ∃ e2, gf d e = some e2 ∧ ((bad i d = true → out i d → s e2 W (K.lp P)) ∧ (bad i d = false → (∀ e', Q e' → P e' W) → s e2 W (K.lp P))))
    (hok : (∀ i d, ds[i]? = some d → bad i d = false) → ∀ e, Q e → K.nx e W)
    (hbad : ∀ i d, ds[i]? = some d → bad i d = true → (∀ j d', j < i → ds[j]? = some d' → bad j d' = false) → out i d) : forM gf s ds env W K := by
  induction ds generalizing bad out env with
  | nil => exact hok (fun i d h => by simp at h) _ h0
  | cons d ds ih =>
    obtain ⟨e2, h1, h2, h3⟩ := hs 0 d env (fun e w => forM gf s ds e w K) rfl h0
    rw [forM_cons, h1]
    cases hb : bad 0 d with
    | true => exact h2 hb (hbad 0 d rfl hb fun j _ hj => by omega)
    | false =>
      refine h3 hb fun e' he' => ?_
      refine ih (fun i => bad (i + 1)) (fun i => out (i + 1)) he' (fun i d e P hd hq => hs (i + 1) d e P hd hq) (fun h e he => hok (fun i d' hd => ?_) e he) fun i d' hd hb' hj => hbad (i + 1) d' hd hb' fun j d'' hj' hd' => ?_
      · cases i with
        | zero => cases hd; exact hb
        | succ i => exact h i d' hd
      · cases j with
        | zero => cases hd'; exact hb
        | succ j => exact hj j d'' (by omega) hd'
/-! ### what the law's own comparing says of a value and itself -/
mutual
/-- plain, narrow, of at most n levels -/
def D.nar : Nat → D → Bool
  | _, .non => true
  | _, .bl _ => true
  | _, .int _ => true
  | _, .str _ => true
  | n + 1, .lst xs => decide (xs.length ≤ 1000000) && D.nars n xs
  | n + 1, .tup xs => decide (xs.length ≤ 1000000) && D.nars n xs
  | _, _ => false
def D.nars : Nat → List D → Bool
  | _, [] => true
  | n, x :: xs => D.nar n x && D.nars n xs
end
theorem D.nars_mem {n : Nat} : ∀ {xs : List D}, D.nars n xs = true → ∀ x ∈ xs, x.nar n = true
  | y :: ys, h, x, hx => by
    rw [D.nars, Bool.and_eq_true] at h
    rcases List.mem_cons.mp hx with rfl | hx
    · exact h.1
    · exact D.nars_mem h.2 x hx
section
variable {W : List MO} {R : D → List MO → Prop} {E : Exn → List MO → Prop}
def smAlike (rec : List D → M D) : SM := (sSeq (sIf (tru (eIsi2 "tuple" "list" (eName 1))) (sSeq (sIf (bOr (bNot (tru (eIsi2 "tuple" "list" (eName 0)))) (tst (e2 dNe (eIsi "list" (eName 0)) (eIsi "list" (eName 1))))) (sRet (eC (.bl false))) sNil) (sSeq (sIf (tst (e2 dNe (e1 dLen (eName 0)) (e1 dLen (eName 1)))) (sRet (eC (.bl false))) sNil) (sRet (e2 dEq (eLc [2] (gN 2) (bNot (tru (eCall rec (aCons (e2 dIx (eName 0) (eName 2)) (aCons (e2 dIx (eName 1) (eName 2)) aNil))))) (eName 2) (iR1 (aCons (e1 dLen (eName 1)) aNil))) (eLst aNil))))) sNil) (sSeq (sIf (tru (eIsi "dict" (eName 1))) (fun _ _ _ => False) sNil) (sSeq (sIf (bOr (tst (e2 dIsN (eName 1) (eC .non))) (tru (eIsi "str" (eName 1)))) (sRet (vAnd (e2 dEq (eName 0) (eName 1)) (e2 dEq (eIsi "str" (eName 0)) (eIsi "str" (eName 1))))) sNil) (sRet (vAnd (eIsi "int" (eName 0)) (vAnd (e2 dEq (eIsi "bool" (eName 0)) (eIsi "bool" (eName 1))) (e2 dEq (eName 0) (eName 1))))))))
def cAlike : Nat → List D → M D
  | 0 => semF ["found", "due", "k", "key"] fun _ _ _ => False
  | n + 1 => semF ["found", "due", "k", "key"] (smAlike (cAlike n))
theorem dEqB_bl (f : Bool → Bool) (a b : Bool) : dEqB f (.bl a) (.bl b) W R E = R (.bl (f (decide (a = b)))) W := by
  show ((D.okd 60 (.bl a) = true ∧ D.okd 60 (.bl b) = true) ∧ R (.bl (f (D.eqb (.bl a) (.bl b)))) W) = _
  simp only [D.okd, D.eqb, D.toP, PyData.eqv, and_self, true_and]
  cases a <;> cases b <;> rfl
theorem dEqB_int (f : Bool → Bool) (a b : Int) : dEqB f (.int a) (.int b) W R E = R (.bl (f (decide (a = b)))) W := by
  show ((D.okd 60 (.int a) = true ∧ D.okd 60 (.int b) = true) ∧ R (.bl (f (D.eqb (.int a) (.int b)))) W) = _
  simp only [D.okd, D.eqb, D.toP, PyData.eqv, and_self, true_and]
  rw [show (a == b) = decide (a = b) from rfl]
theorem dEqB_non (f : Bool → Bool) : dEqB f .non .non W R E = R (.bl (f true)) W := by
  show ((D.okd 60 .non = true ∧ D.okd 60 .non = true) ∧ R (.bl (f (D.eqb .non .non))) W) = _
  simp only [D.okd, D.eqb, D.toP, PyData.eqv, and_self, true_and]
theorem dEqB_str (f : Bool → Bool) (a b : Str) : dEqB f (.str a) (.str b) W R E = R (.bl (f (decide (a = b)))) W := rfl
theorem dEqB_nil (f : Bool → Bool) : dEqB f (.lst []) (.lst []) W R E = R (.bl (f true)) W := by
  show ((D.okd 60 (.lst []) = true ∧ D.okd 60 (.lst []) = true) ∧ R (.bl (f (D.eqb (.lst []) (.lst [])))) W) = _
  simp [D.okd, D.okds, D.eqb, D.toP, D.toPs, PyData.eqv, PyData.eqvAll]
theorem alike_self : ∀ (n : Nat) (d : D) {W : List MO} {R : D → List MO → Prop} {E : Exn → List MO → Prop}, d.nar n = true → R (.bl true) W → cAlike (n + 1) [d, d] W R E
  | n, d, W, R, E, hd, h => by
    show smAlike (cAlike n) [.v d, .v d, .no, .no] W (kS R E)
    unfold smAlike
    have seq : ∀ (xs : List D), (∀ x ∈ xs, x.nar (n - 1) = true) → 0 < n → ∀ k, k < xs.length → ∀ {W} {R : D → List MO → Prop} {E}, R (.bl true) W → cAlike n [xs.getD k .non, xs.getD k .non] W R E := fun xs hx hn k hk W R E h => by
      obtain ⟨m, rfl⟩ : ∃ m, n = m + 1 := ⟨n - 1, by omega⟩
      refine alike_self m _ ?_ h
      have := hx (xs.getD k .non) (by rw [List.getD_eq_getElem?_getD, List.getElem?_eq_getElem hk]; exact List.getElem_mem _)
      exact this
    have row : ∀ (xs : List D) (x : D), (x = .lst xs ∨ x = .tup xs) → (∀ x ∈ xs, x.nar (n - 1) = true) → 0 < n → xs.length ≤ 1000000 → ∀ {R : D → List MO → Prop}, R (.lst []) W → eLc [2] (gN 2) (bNot (tru (eCall (cAlike n) (aCons (e2 dIx (eName 0) (eName 2)) (aCons (e2 dIx (eName 1) (eName 2)) aNil))))) (eName 2) (iR1 (aCons (e1 dLen (eName 1)) aNil)) [.v x, .v x, .no, .no] W R E := fun xs x ex hx hn hl R h => by
      have key : compM (gN 2) (bNot (tru (eCall (cAlike n) (aCons (e2 dIx (eName 0) (eName 2)) (aCons (e2 dIx (eName 1) (eName 2)) aNil))))) (eName 2) [.v x, .v x, .no, .no] (rangeD 0 xs.length) W (fun ys W2 => R (.lst ys) W2) fun _ _ => False := by
        refine compM_map (p := fun _ => false) (g := fun d => d) (fun d hd => ?_) ?_
        · obtain ⟨k, hk⟩ := List.mem_iff_getElem?.mp hd
          rw [rangeD_get] at hk
          by_cases hlt : k < xs.length
          · rw [if_pos hlt] at hk
            cases hk
            refine ⟨_, rfl, fun W RB E hr => ?_, fun z => by cases z⟩
            have e1 : atI xs (0 + (k : Int)) = some (xs.getD k .non) := by
              rw [Int.zero_add, atI_nat, List.getD_eq_getElem?_getD, List.getElem?_eq_getElem hlt]
              rfl
            rcases ex with rfl | rfl <;>
            · simp only [ret_ap, bnd_ap, ask_ap, fail_ap, noE_ap, eName_ap, eOwn_ap, eC_ap, e1_ap, e2_ap, e2g_ap, e3_ap, tst_ap, bAnd_ap, bOr_ap, bNot_ap, bYes_ap, vAnd_ap, vOr_ap, vNot_ap, tru_ap, eIf_ap, aNil_ap, aCons_ap, aStar_ap, eTup_ap, eLst_ap, eTupS_ap, eLstS_ap, eCall_ap, eRef_ap, eIsi_ap, eIsi2_ap, iSeq_ap, iEn_ap, iR1_ap, iR2_ap, iR3_ap, eLc_ap, sNil_ap, sSeq_ap, sFrz_ap, sExpr_ap, sRet_ap, sAsg_ap, sOwn_ap, sIf_ap, sFor_ap, sAug_ap, sApp_ap, sExt_ap, sRaise_ap, gN_ap, gT_ap, gsC_ap, gs0_ap, sq_rt, sq_ex, sq_bk, sq_ct, lp_rt, lp_ex, lp_bk, lp_ct, lp_nx, kS_rt, kS_ex, kS_nx, List.getElem?_cons_zero, List.getElem?_cons_succ, List.set_cons_zero, List.set_cons_succ, Option.bind_some, dLen_lst, dLen_tup, dLen_dct, dLen_str, dAdd_ii, dAdd_ss, dAdd_ll, dAdd_tt, dSub_ii, dMul_ii, dMul_li, dFdiv_ii, dMod_ii, dPow_ii, dNeg_i, dCmp_ii, dSum_l, dAll_l, dAny_l, dAbs_i, dInt_i, dInt_b, dList_l, dList_t, dTuple_l, dTuple_t, dMax2_ii, dMin2_ii, dAddI_ii, dRev_l, dIx_l, dIx_t, dIx_d, orFail_some, orFail_none, tru_non, ty_non, tru_bl, ty_bl, tru_int, ty_int, tru_str, ty_str, tru_lst, ty_lst, tru_tup, ty_tup, tru_dct, ty_dct, its_lst, items_lst, its_tup, items_tup, isL_l, dIsN, dNotN, if_true, if_false, Bool.not_true, Bool.not_false, true_and, and_true, wipeE, isTy_NoneType_bool, isTy_NoneType_int, isTy_NoneType_str, isTy_NoneType_list, isTy_NoneType_tuple, isTy_NoneType_dict, isTy_bool_bool, isTy_bool_int, isTy_bool_str, isTy_bool_list, isTy_bool_tuple, isTy_bool_dict, isTy_int_bool, isTy_int_int, isTy_int_str, isTy_int_list, isTy_int_tuple, isTy_int_dict, isTy_str_bool, isTy_str_int, isTy_str_str, isTy_str_list, isTy_str_tuple, isTy_str_dict, isTy_list_bool, isTy_list_int, isTy_list_str, isTy_list_list, isTy_list_tuple, isTy_list_dict, isTy_tuple_bool, isTy_tuple_int, isTy_tuple_str, isTy_tuple_list, isTy_tuple_tuple, isTy_tuple_dict, isTy_dict_bool, isTy_dict_int, isTy_dict_str, isTy_dict_list, isTy_dict_tuple, isTy_dict_dict, Bool.or_true, Bool.or_false, Bool.true_or, Bool.false_or, reduceCtorEq, eq_self, ↓reduceIte, e1]
              refine seq xs hx hn k hlt ?_
              simp only [ret_ap, bnd_ap, ask_ap, fail_ap, noE_ap, eName_ap, eOwn_ap, eC_ap, e1_ap, e2_ap, e2g_ap, e3_ap, tst_ap, bAnd_ap, bOr_ap, bNot_ap, bYes_ap, vAnd_ap, vOr_ap, vNot_ap, tru_ap, eIf_ap, aNil_ap, aCons_ap, aStar_ap, eTup_ap, eLst_ap, eTupS_ap, eLstS_ap, eCall_ap, eRef_ap, eIsi_ap, eIsi2_ap, iSeq_ap, iEn_ap, iR1_ap, iR2_ap, iR3_ap, eLc_ap, sNil_ap, sSeq_ap, sFrz_ap, sExpr_ap, sRet_ap, sAsg_ap, sOwn_ap, sIf_ap, sFor_ap, sAug_ap, sApp_ap, sExt_ap, sRaise_ap, gN_ap, gT_ap, gsC_ap, gs0_ap, sq_rt, sq_ex, sq_bk, sq_ct, lp_rt, lp_ex, lp_bk, lp_ct, lp_nx, kS_rt, kS_ex, kS_nx, List.getElem?_cons_zero, List.getElem?_cons_succ, List.set_cons_zero, List.set_cons_succ, Option.bind_some, dLen_lst, dLen_tup, dLen_dct, dLen_str, dAdd_ii, dAdd_ss, dAdd_ll, dAdd_tt, dSub_ii, dMul_ii, dMul_li, dFdiv_ii, dMod_ii, dPow_ii, dNeg_i, dCmp_ii, dSum_l, dAll_l, dAny_l, dAbs_i, dInt_i, dInt_b, dList_l, dList_t, dTuple_l, dTuple_t, dMax2_ii, dMin2_ii, dAddI_ii, dRev_l, dIx_l, dIx_t, dIx_d, orFail_some, orFail_none, tru_non, ty_non, tru_bl, ty_bl, tru_int, ty_int, tru_str, ty_str, tru_lst, ty_lst, tru_tup, ty_tup, tru_dct, ty_dct, its_lst, items_lst, its_tup, items_tup, isL_l, dIsN, dNotN, if_true, if_false, Bool.not_true, Bool.not_false, true_and, and_true, wipeE, isTy_NoneType_bool, isTy_NoneType_int, isTy_NoneType_str, isTy_NoneType_list, isTy_NoneType_tuple, isTy_NoneType_dict, isTy_bool_bool, isTy_bool_int, isTy_bool_str, isTy_bool_list, isTy_bool_tuple, isTy_bool_dict, isTy_int_bool, isTy_int_int, isTy_int_str, isTy_int_list, isTy_int_tuple, isTy_int_dict, isTy_str_bool, isTy_str_int, isTy_str_str, isTy_str_list, isTy_str_tuple, isTy_str_dict, isTy_list_bool, isTy_list_int, isTy_list_str, isTy_list_list, isTy_list_tuple, isTy_list_dict, isTy_tuple_bool, isTy_tuple_int, isTy_tuple_str, isTy_tuple_list, isTy_tuple_tuple, isTy_tuple_dict, isTy_dict_bool, isTy_dict_int, isTy_dict_str, isTy_dict_list, isTy_dict_tuple, isTy_dict_dict, Bool.or_true, Bool.or_false, Bool.true_or, Bool.false_or, reduceCtorEq, eq_self, ↓reduceIte]
              exact hr
          · rw [if_neg hlt] at hk
            cases hk
        · rw [List.filter_eq_nil_iff.mpr (fun _ _ => Bool.false_ne_true)]
          exact h
      rcases ex with rfl | rfl <;>
      · simp only [ret_ap, bnd_ap, ask_ap, fail_ap, noE_ap, eName_ap, eOwn_ap, eC_ap, e1_ap, e2_ap, e2g_ap, e3_ap, tst_ap, bAnd_ap, bOr_ap, bNot_ap, bYes_ap, vAnd_ap, vOr_ap, vNot_ap, tru_ap, eIf_ap, aNil_ap, aCons_ap, aStar_ap, eTup_ap, eLst_ap, eTupS_ap, eLstS_ap, eCall_ap, eRef_ap, eIsi_ap, eIsi2_ap, iSeq_ap, iEn_ap, iR1_ap, iR2_ap, iR3_ap, eLc_ap, sNil_ap, sSeq_ap, sFrz_ap, sExpr_ap, sRet_ap, sAsg_ap, sOwn_ap, sIf_ap, sFor_ap, sAug_ap, sApp_ap, sExt_ap, sRaise_ap, gN_ap, gT_ap, gsC_ap, gs0_ap, sq_rt, sq_ex, sq_bk, sq_ct, lp_rt, lp_ex, lp_bk, lp_ct, lp_nx, kS_rt, kS_ex, kS_nx, List.getElem?_cons_zero, List.getElem?_cons_succ, List.set_cons_zero, List.set_cons_succ, Option.bind_some, dLen_lst, dLen_tup, dLen_dct, dLen_str, dAdd_ii, dAdd_ss, dAdd_ll, dAdd_tt, dSub_ii, dMul_ii, dMul_li, dFdiv_ii, dMod_ii, dPow_ii, dNeg_i, dCmp_ii, dSum_l, dAll_l, dAny_l, dAbs_i, dInt_i, dInt_b, dList_l, dList_t, dTuple_l, dTuple_t, dMax2_ii, dMin2_ii, dAddI_ii, dRev_l, dIx_l, dIx_t, dIx_d, orFail_some, orFail_none, tru_non, ty_non, tru_bl, ty_bl, tru_int, ty_int, tru_str, ty_str, tru_lst, ty_lst, tru_tup, ty_tup, tru_dct, ty_dct, its_lst, items_lst, its_tup, items_tup, isL_l, dIsN, dNotN, if_true, if_false, Bool.not_true, Bool.not_false, true_and, and_true, wipeE, isTy_NoneType_bool, isTy_NoneType_int, isTy_NoneType_str, isTy_NoneType_list, isTy_NoneType_tuple, isTy_NoneType_dict, isTy_bool_bool, isTy_bool_int, isTy_bool_str, isTy_bool_list, isTy_bool_tuple, isTy_bool_dict, isTy_int_bool, isTy_int_int, isTy_int_str, isTy_int_list, isTy_int_tuple, isTy_int_dict, isTy_str_bool, isTy_str_int, isTy_str_str, isTy_str_list, isTy_str_tuple, isTy_str_dict, isTy_list_bool, isTy_list_int, isTy_list_str, isTy_list_list, isTy_list_tuple, isTy_list_dict, isTy_tuple_bool, isTy_tuple_int, isTy_tuple_str, isTy_tuple_list, isTy_tuple_tuple, isTy_tuple_dict, isTy_dict_bool, isTy_dict_int, isTy_dict_str, isTy_dict_list, isTy_dict_tuple, isTy_dict_dict, Bool.or_true, Bool.or_false, Bool.true_or, Bool.false_or, reduceCtorEq, eq_self, ↓reduceIte]
        exact ⟨⟨small62_of (by omega) (by omega), small_leni' (by omega)⟩, key⟩
    cases d with
    | non =>
      simp only [ret_ap, bnd_ap, ask_ap, fail_ap, noE_ap, eName_ap, eOwn_ap, eC_ap, e1_ap, e2_ap, e2g_ap, e3_ap, tst_ap, bAnd_ap, bOr_ap, bNot_ap, bYes_ap, vAnd_ap, vOr_ap, vNot_ap, tru_ap, eIf_ap, aNil_ap, aCons_ap, aStar_ap, eTup_ap, eLst_ap, eTupS_ap, eLstS_ap, eCall_ap, eRef_ap, eIsi_ap, eIsi2_ap, iSeq_ap, iEn_ap, iR1_ap, iR2_ap, iR3_ap, eLc_ap, sNil_ap, sSeq_ap, sFrz_ap, sExpr_ap, sRet_ap, sAsg_ap, sOwn_ap, sIf_ap, sFor_ap, sAug_ap, sApp_ap, sExt_ap, sRaise_ap, gN_ap, gT_ap, gsC_ap, gs0_ap, sq_rt, sq_ex, sq_bk, sq_ct, lp_rt, lp_ex, lp_bk, lp_ct, lp_nx, kS_rt, kS_ex, kS_nx, List.getElem?_cons_zero, List.getElem?_cons_succ, List.set_cons_zero, List.set_cons_succ, Option.bind_some, dLen_lst, dLen_tup, dLen_dct, dLen_str, dAdd_ii, dAdd_ss, dAdd_ll, dAdd_tt, dSub_ii, dMul_ii, dMul_li, dFdiv_ii, dMod_ii, dPow_ii, dNeg_i, dCmp_ii, dSum_l, dAll_l, dAny_l, dAbs_i, dInt_i, dInt_b, dList_l, dList_t, dTuple_l, dTuple_t, dMax2_ii, dMin2_ii, dAddI_ii, dRev_l, dIx_l, dIx_t, dIx_d, orFail_some, orFail_none, tru_non, ty_non, tru_bl, ty_bl, tru_int, ty_int, tru_str, ty_str, tru_lst, ty_lst, tru_tup, ty_tup, tru_dct, ty_dct, its_lst, items_lst, its_tup, items_tup, isL_l, dIsN, dNotN, if_true, if_false, Bool.not_true, Bool.not_false, true_and, and_true, wipeE, isTy_NoneType_bool, isTy_NoneType_int, isTy_NoneType_str, isTy_NoneType_list, isTy_NoneType_tuple, isTy_NoneType_dict, isTy_bool_bool, isTy_bool_int, isTy_bool_str, isTy_bool_list, isTy_bool_tuple, isTy_bool_dict, isTy_int_bool, isTy_int_int, isTy_int_str, isTy_int_list, isTy_int_tuple, isTy_int_dict, isTy_str_bool, isTy_str_int, isTy_str_str, isTy_str_list, isTy_str_tuple, isTy_str_dict, isTy_list_bool, isTy_list_int, isTy_list_str, isTy_list_list, isTy_list_tuple, isTy_list_dict, isTy_tuple_bool, isTy_tuple_int, isTy_tuple_str, isTy_tuple_list, isTy_tuple_tuple, isTy_tuple_dict, isTy_dict_bool, isTy_dict_int, isTy_dict_str, isTy_dict_list, isTy_dict_tuple, isTy_dict_dict, Bool.or_true, Bool.or_false, Bool.true_or, Bool.false_or, reduceCtorEq, eq_self, ↓reduceIte, sq_nx, dEqB_bl, dEqB_int, dEqB_non, decide_true]
      exact h
    | bl b =>
      simp only [ret_ap, bnd_ap, ask_ap, fail_ap, noE_ap, eName_ap, eOwn_ap, eC_ap, e1_ap, e2_ap, e2g_ap, e3_ap, tst_ap, bAnd_ap, bOr_ap, bNot_ap, bYes_ap, vAnd_ap, vOr_ap, vNot_ap, tru_ap, eIf_ap, aNil_ap, aCons_ap, aStar_ap, eTup_ap, eLst_ap, eTupS_ap, eLstS_ap, eCall_ap, eRef_ap, eIsi_ap, eIsi2_ap, iSeq_ap, iEn_ap, iR1_ap, iR2_ap, iR3_ap, eLc_ap, sNil_ap, sSeq_ap, sFrz_ap, sExpr_ap, sRet_ap, sAsg_ap, sOwn_ap, sIf_ap, sFor_ap, sAug_ap, sApp_ap, sExt_ap, sRaise_ap, gN_ap, gT_ap, gsC_ap, gs0_ap, sq_rt, sq_ex, sq_bk, sq_ct, lp_rt, lp_ex, lp_bk, lp_ct, lp_nx, kS_rt, kS_ex, kS_nx, List.getElem?_cons_zero, List.getElem?_cons_succ, List.set_cons_zero, List.set_cons_succ, Option.bind_some, dLen_lst, dLen_tup, dLen_dct, dLen_str, dAdd_ii, dAdd_ss, dAdd_ll, dAdd_tt, dSub_ii, dMul_ii, dMul_li, dFdiv_ii, dMod_ii, dPow_ii, dNeg_i, dCmp_ii, dSum_l, dAll_l, dAny_l, dAbs_i, dInt_i, dInt_b, dList_l, dList_t, dTuple_l, dTuple_t, dMax2_ii, dMin2_ii, dAddI_ii, dRev_l, dIx_l, dIx_t, dIx_d, orFail_some, orFail_none, tru_non, ty_non, tru_bl, ty_bl, tru_int, ty_int, tru_str, ty_str, tru_lst, ty_lst, tru_tup, ty_tup, tru_dct, ty_dct, its_lst, items_lst, its_tup, items_tup, isL_l, dIsN, dNotN, if_true, if_false, Bool.not_true, Bool.not_false, true_and, and_true, wipeE, isTy_NoneType_bool, isTy_NoneType_int, isTy_NoneType_str, isTy_NoneType_list, isTy_NoneType_tuple, isTy_NoneType_dict, isTy_bool_bool, isTy_bool_int, isTy_bool_str, isTy_bool_list, isTy_bool_tuple, isTy_bool_dict, isTy_int_bool, isTy_int_int, isTy_int_str, isTy_int_list, isTy_int_tuple, isTy_int_dict, isTy_str_bool, isTy_str_int, isTy_str_str, isTy_str_list, isTy_str_tuple, isTy_str_dict, isTy_list_bool, isTy_list_int, isTy_list_str, isTy_list_list, isTy_list_tuple, isTy_list_dict, isTy_tuple_bool, isTy_tuple_int, isTy_tuple_str, isTy_tuple_list, isTy_tuple_tuple, isTy_tuple_dict, isTy_dict_bool, isTy_dict_int, isTy_dict_str, isTy_dict_list, isTy_dict_tuple, isTy_dict_dict, Bool.or_true, Bool.or_false, Bool.true_or, Bool.false_or, reduceCtorEq, eq_self, ↓reduceIte, sq_nx, dEqB_bl, dEqB_int, dEqB_non, decide_true]
      exact h
    | int i =>
      simp only [ret_ap, bnd_ap, ask_ap, fail_ap, noE_ap, eName_ap, eOwn_ap, eC_ap, e1_ap, e2_ap, e2g_ap, e3_ap, tst_ap, bAnd_ap, bOr_ap, bNot_ap, bYes_ap, vAnd_ap, vOr_ap, vNot_ap, tru_ap, eIf_ap, aNil_ap, aCons_ap, aStar_ap, eTup_ap, eLst_ap, eTupS_ap, eLstS_ap, eCall_ap, eRef_ap, eIsi_ap, eIsi2_ap, iSeq_ap, iEn_ap, iR1_ap, iR2_ap, iR3_ap, eLc_ap, sNil_ap, sSeq_ap, sFrz_ap, sExpr_ap, sRet_ap, sAsg_ap, sOwn_ap, sIf_ap, sFor_ap, sAug_ap, sApp_ap, sExt_ap, sRaise_ap, gN_ap, gT_ap, gsC_ap, gs0_ap, sq_rt, sq_ex, sq_bk, sq_ct, lp_rt, lp_ex, lp_bk, lp_ct, lp_nx, kS_rt, kS_ex, kS_nx, List.getElem?_cons_zero, List.getElem?_cons_succ, List.set_cons_zero, List.set_cons_succ, Option.bind_some, dLen_lst, dLen_tup, dLen_dct, dLen_str, dAdd_ii, dAdd_ss, dAdd_ll, dAdd_tt, dSub_ii, dMul_ii, dMul_li, dFdiv_ii, dMod_ii, dPow_ii, dNeg_i, dCmp_ii, dSum_l, dAll_l, dAny_l, dAbs_i, dInt_i, dInt_b, dList_l, dList_t, dTuple_l, dTuple_t, dMax2_ii, dMin2_ii, dAddI_ii, dRev_l, dIx_l, dIx_t, dIx_d, orFail_some, orFail_none, tru_non, ty_non, tru_bl, ty_bl, tru_int, ty_int, tru_str, ty_str, tru_lst, ty_lst, tru_tup, ty_tup, tru_dct, ty_dct, its_lst, items_lst, its_tup, items_tup, isL_l, dIsN, dNotN, if_true, if_false, Bool.not_true, Bool.not_false, true_and, and_true, wipeE, isTy_NoneType_bool, isTy_NoneType_int, isTy_NoneType_str, isTy_NoneType_list, isTy_NoneType_tuple, isTy_NoneType_dict, isTy_bool_bool, isTy_bool_int, isTy_bool_str, isTy_bool_list, isTy_bool_tuple, isTy_bool_dict, isTy_int_bool, isTy_int_int, isTy_int_str, isTy_int_list, isTy_int_tuple, isTy_int_dict, isTy_str_bool, isTy_str_int, isTy_str_str, isTy_str_list, isTy_str_tuple, isTy_str_dict, isTy_list_bool, isTy_list_int, isTy_list_str, isTy_list_list, isTy_list_tuple, isTy_list_dict, isTy_tuple_bool, isTy_tuple_int, isTy_tuple_str, isTy_tuple_list, isTy_tuple_tuple, isTy_tuple_dict, isTy_dict_bool, isTy_dict_int, isTy_dict_str, isTy_dict_list, isTy_dict_tuple, isTy_dict_dict, Bool.or_true, Bool.or_false, Bool.true_or, Bool.false_or, reduceCtorEq, eq_self, ↓reduceIte, sq_nx, dEqB_bl, dEqB_int, dEqB_non, decide_true]
      exact h
    | str s =>
      simp only [ret_ap, bnd_ap, ask_ap, fail_ap, noE_ap, eName_ap, eOwn_ap, eC_ap, e1_ap, e2_ap, e2g_ap, e3_ap, tst_ap, bAnd_ap, bOr_ap, bNot_ap, bYes_ap, vAnd_ap, vOr_ap, vNot_ap, tru_ap, eIf_ap, aNil_ap, aCons_ap, aStar_ap, eTup_ap, eLst_ap, eTupS_ap, eLstS_ap, eCall_ap, eRef_ap, eIsi_ap, eIsi2_ap, iSeq_ap, iEn_ap, iR1_ap, iR2_ap, iR3_ap, eLc_ap, sNil_ap, sSeq_ap, sFrz_ap, sExpr_ap, sRet_ap, sAsg_ap, sOwn_ap, sIf_ap, sFor_ap, sAug_ap, sApp_ap, sExt_ap, sRaise_ap, gN_ap, gT_ap, gsC_ap, gs0_ap, sq_rt, sq_ex, sq_bk, sq_ct, lp_rt, lp_ex, lp_bk, lp_ct, lp_nx, kS_rt, kS_ex, kS_nx, List.getElem?_cons_zero, List.getElem?_cons_succ, List.set_cons_zero, List.set_cons_succ, Option.bind_some, dLen_lst, dLen_tup, dLen_dct, dLen_str, dAdd_ii, dAdd_ss, dAdd_ll, dAdd_tt, dSub_ii, dMul_ii, dMul_li, dFdiv_ii, dMod_ii, dPow_ii, dNeg_i, dCmp_ii, dSum_l, dAll_l, dAny_l, dAbs_i, dInt_i, dInt_b, dList_l, dList_t, dTuple_l, dTuple_t, dMax2_ii, dMin2_ii, dAddI_ii, dRev_l, dIx_l, dIx_t, dIx_d, orFail_some, orFail_none, tru_non, ty_non, tru_bl, ty_bl, tru_int, ty_int, tru_str, ty_str, tru_lst, ty_lst, tru_tup, ty_tup, tru_dct, ty_dct, its_lst, items_lst, its_tup, items_tup, isL_l, dIsN, dNotN, if_true, if_false, Bool.not_true, Bool.not_false, true_and, and_true, wipeE, isTy_NoneType_bool, isTy_NoneType_int, isTy_NoneType_str, isTy_NoneType_list, isTy_NoneType_tuple, isTy_NoneType_dict, isTy_bool_bool, isTy_bool_int, isTy_bool_str, isTy_bool_list, isTy_bool_tuple, isTy_bool_dict, isTy_int_bool, isTy_int_int, isTy_int_str, isTy_int_list, isTy_int_tuple, isTy_int_dict, isTy_str_bool, isTy_str_int, isTy_str_str, isTy_str_list, isTy_str_tuple, isTy_str_dict, isTy_list_bool, isTy_list_int, isTy_list_str, isTy_list_list, isTy_list_tuple, isTy_list_dict, isTy_tuple_bool, isTy_tuple_int, isTy_tuple_str, isTy_tuple_list, isTy_tuple_tuple, isTy_tuple_dict, isTy_dict_bool, isTy_dict_int, isTy_dict_str, isTy_dict_list, isTy_dict_tuple, isTy_dict_dict, Bool.or_true, Bool.or_false, Bool.true_or, Bool.false_or, reduceCtorEq, eq_self, ↓reduceIte, sq_nx, dEqB_bl, dEqB_int, dEqB_non, dEqB_str, decide_true]
      exact h
    | lst xs =>
      obtain ⟨m, rfl⟩ : ∃ m, n = m + 1 := by
        cases n with
        | zero => simp [D.nar] at hd
        | succ m => exact ⟨m, rfl⟩
      rw [D.nar, Bool.and_eq_true] at hd
      have q := row xs (.lst xs) (.inl rfl) (D.nars_mem hd.2) (Nat.succ_pos _) (of_decide_eq_true hd.1) (R := fun d w => dEqB (fun b => b) d (.lst []) w R E) (by rw [dEqB_nil]; exact h)
      have q2 : eLc _ _ _ _ _ _ _ _ _ := q
      rw [eLc_ap] at q
      simp only [ret_ap, bnd_ap, ask_ap, fail_ap, noE_ap, eName_ap, eOwn_ap, eC_ap, e1_ap, e2_ap, e2g_ap, e3_ap, tst_ap, bAnd_ap, bOr_ap, bNot_ap, bYes_ap, vAnd_ap, vOr_ap, vNot_ap, tru_ap, eIf_ap, aNil_ap, aCons_ap, aStar_ap, eTup_ap, eLst_ap, eTupS_ap, eLstS_ap, eCall_ap, eRef_ap, eIsi_ap, eIsi2_ap, iSeq_ap, iEn_ap, iR1_ap, iR2_ap, iR3_ap, eLc_ap, sNil_ap, sSeq_ap, sFrz_ap, sExpr_ap, sRet_ap, sAsg_ap, sOwn_ap, sIf_ap, sFor_ap, sAug_ap, sApp_ap, sExt_ap, sRaise_ap, gN_ap, gT_ap, gsC_ap, gs0_ap, sq_rt, sq_ex, sq_bk, sq_ct, lp_rt, lp_ex, lp_bk, lp_ct, lp_nx, kS_rt, kS_ex, kS_nx, List.getElem?_cons_zero, List.getElem?_cons_succ, List.set_cons_zero, List.set_cons_succ, Option.bind_some, dLen_lst, dLen_tup, dLen_dct, dLen_str, dAdd_ii, dAdd_ss, dAdd_ll, dAdd_tt, dSub_ii, dMul_ii, dMul_li, dFdiv_ii, dMod_ii, dPow_ii, dNeg_i, dCmp_ii, dSum_l, dAll_l, dAny_l, dAbs_i, dInt_i, dInt_b, dList_l, dList_t, dTuple_l, dTuple_t, dMax2_ii, dMin2_ii, dAddI_ii, dRev_l, dIx_l, dIx_t, dIx_d, orFail_some, orFail_none, tru_non, ty_non, tru_bl, ty_bl, tru_int, ty_int, tru_str, ty_str, tru_lst, ty_lst, tru_tup, ty_tup, tru_dct, ty_dct, its_lst, items_lst, its_tup, items_tup, isL_l, dIsN, dNotN, if_true, if_false, Bool.not_true, Bool.not_false, true_and, and_true, wipeE, isTy_NoneType_bool, isTy_NoneType_int, isTy_NoneType_str, isTy_NoneType_list, isTy_NoneType_tuple, isTy_NoneType_dict, isTy_bool_bool, isTy_bool_int, isTy_bool_str, isTy_bool_list, isTy_bool_tuple, isTy_bool_dict, isTy_int_bool, isTy_int_int, isTy_int_str, isTy_int_list, isTy_int_tuple, isTy_int_dict, isTy_str_bool, isTy_str_int, isTy_str_str, isTy_str_list, isTy_str_tuple, isTy_str_dict, isTy_list_bool, isTy_list_int, isTy_list_str, isTy_list_list, isTy_list_tuple, isTy_list_dict, isTy_tuple_bool, isTy_tuple_int, isTy_tuple_str, isTy_tuple_list, isTy_tuple_tuple, isTy_tuple_dict, isTy_dict_bool, isTy_dict_int, isTy_dict_str, isTy_dict_list, isTy_dict_tuple, isTy_dict_dict, Bool.or_true, Bool.or_false, Bool.true_or, Bool.false_or, reduceCtorEq, eq_self, ↓reduceIte, sq_nx, dEqB_bl, dEqB_int, dEqB_non, decide_true]
      simp only [ret_ap, bnd_ap, ask_ap, fail_ap, noE_ap, eName_ap, eOwn_ap, eC_ap, e1_ap, e2_ap, e2g_ap, e3_ap, tst_ap, bAnd_ap, bOr_ap, bNot_ap, bYes_ap, vAnd_ap, vOr_ap, vNot_ap, tru_ap, eIf_ap, aNil_ap, aCons_ap, aStar_ap, eTup_ap, eLst_ap, eTupS_ap, eLstS_ap, eCall_ap, eRef_ap, eIsi_ap, eIsi2_ap, iSeq_ap, iEn_ap, iR1_ap, iR2_ap, iR3_ap, eLc_ap, sNil_ap, sSeq_ap, sFrz_ap, sExpr_ap, sRet_ap, sAsg_ap, sOwn_ap, sIf_ap, sFor_ap, sAug_ap, sApp_ap, sExt_ap, sRaise_ap, gN_ap, gT_ap, gsC_ap, gs0_ap, sq_rt, sq_ex, sq_bk, sq_ct, lp_rt, lp_ex, lp_bk, lp_ct, lp_nx, kS_rt, kS_ex, kS_nx, List.getElem?_cons_zero, List.getElem?_cons_succ, List.set_cons_zero, List.set_cons_succ, Option.bind_some, dLen_lst, dLen_tup, dLen_dct, dLen_str, dAdd_ii, dAdd_ss, dAdd_ll, dAdd_tt, dSub_ii, dMul_ii, dMul_li, dFdiv_ii, dMod_ii, dPow_ii, dNeg_i, dCmp_ii, dSum_l, dAll_l, dAny_l, dAbs_i, dInt_i, dInt_b, dList_l, dList_t, dTuple_l, dTuple_t, dMax2_ii, dMin2_ii, dAddI_ii, dRev_l, dIx_l, dIx_t, dIx_d, orFail_some, orFail_none, tru_non, ty_non, tru_bl, ty_bl, tru_int, ty_int, tru_str, ty_str, tru_lst, ty_lst, tru_tup, ty_tup, tru_dct, ty_dct, its_lst, items_lst, its_tup, items_tup, isL_l, dIsN, dNotN, if_true, if_false, Bool.not_true, Bool.not_false, true_and, and_true, wipeE, isTy_NoneType_bool, isTy_NoneType_int, isTy_NoneType_str, isTy_NoneType_list, isTy_NoneType_tuple, isTy_NoneType_dict, isTy_bool_bool, isTy_bool_int, isTy_bool_str, isTy_bool_list, isTy_bool_tuple, isTy_bool_dict, isTy_int_bool, isTy_int_int, isTy_int_str, isTy_int_list, isTy_int_tuple, isTy_int_dict, isTy_str_bool, isTy_str_int, isTy_str_str, isTy_str_list, isTy_str_tuple, isTy_str_dict, isTy_list_bool, isTy_list_int, isTy_list_str, isTy_list_list, isTy_list_tuple, isTy_list_dict, isTy_tuple_bool, isTy_tuple_int, isTy_tuple_str, isTy_tuple_list, isTy_tuple_tuple, isTy_tuple_dict, isTy_dict_bool, isTy_dict_int, isTy_dict_str, isTy_dict_list, isTy_dict_tuple, isTy_dict_dict, Bool.or_true, Bool.or_false, Bool.true_or, Bool.false_or, reduceCtorEq, eq_self, ↓reduceIte] at q
      exact q
    | tup xs =>
      obtain ⟨m, rfl⟩ : ∃ m, n = m + 1 := by
        cases n with
        | zero => simp [D.nar] at hd
        | succ m => exact ⟨m, rfl⟩
      rw [D.nar, Bool.and_eq_true] at hd
      have q := row xs (.tup xs) (.inr rfl) (D.nars_mem hd.2) (Nat.succ_pos _) (of_decide_eq_true hd.1) (R := fun d w => dEqB (fun b => b) d (.lst []) w R E) (by rw [dEqB_nil]; exact h)
      simp only [ret_ap, bnd_ap, ask_ap, fail_ap, noE_ap, eName_ap, eOwn_ap, eC_ap, e1_ap, e2_ap, e2g_ap, e3_ap, tst_ap, bAnd_ap, bOr_ap, bNot_ap, bYes_ap, vAnd_ap, vOr_ap, vNot_ap, tru_ap, eIf_ap, aNil_ap, aCons_ap, aStar_ap, eTup_ap, eLst_ap, eTupS_ap, eLstS_ap, eCall_ap, eRef_ap, eIsi_ap, eIsi2_ap, iSeq_ap, iEn_ap, iR1_ap, iR2_ap, iR3_ap, eLc_ap, sNil_ap, sSeq_ap, sFrz_ap, sExpr_ap, sRet_ap, sAsg_ap, sOwn_ap, sIf_ap, sFor_ap, sAug_ap, sApp_ap, sExt_ap, sRaise_ap, gN_ap, gT_ap, gsC_ap, gs0_ap, sq_rt, sq_ex, sq_bk, sq_ct, lp_rt, lp_ex, lp_bk, lp_ct, lp_nx, kS_rt, kS_ex, kS_nx, List.getElem?_cons_zero, List.getElem?_cons_succ, List.set_cons_zero, List.set_cons_succ, Option.bind_some, dLen_lst, dLen_tup, dLen_dct, dLen_str, dAdd_ii, dAdd_ss, dAdd_ll, dAdd_tt, dSub_ii, dMul_ii, dMul_li, dFdiv_ii, dMod_ii, dPow_ii, dNeg_i, dCmp_ii, dSum_l, dAll_l, dAny_l, dAbs_i, dInt_i, dInt_b, dList_l, dList_t, dTuple_l, dTuple_t, dMax2_ii, dMin2_ii, dAddI_ii, dRev_l, dIx_l, dIx_t, dIx_d, orFail_some, orFail_none, tru_non, ty_non, tru_bl, ty_bl, tru_int, ty_int, tru_str, ty_str, tru_lst, ty_lst, tru_tup, ty_tup, tru_dct, ty_dct, its_lst, items_lst, its_tup, items_tup, isL_l, dIsN, dNotN, if_true, if_false, Bool.not_true, Bool.not_false, true_and, and_true, wipeE, isTy_NoneType_bool, isTy_NoneType_int, isTy_NoneType_str, isTy_NoneType_list, isTy_NoneType_tuple, isTy_NoneType_dict, isTy_bool_bool, isTy_bool_int, isTy_bool_str, isTy_bool_list, isTy_bool_tuple, isTy_bool_dict, isTy_int_bool, isTy_int_int, isTy_int_str, isTy_int_list, isTy_int_tuple, isTy_int_dict, isTy_str_bool, isTy_str_int, isTy_str_str, isTy_str_list, isTy_str_tuple, isTy_str_dict, isTy_list_bool, isTy_list_int, isTy_list_str, isTy_list_list, isTy_list_tuple, isTy_list_dict, isTy_tuple_bool, isTy_tuple_int, isTy_tuple_str, isTy_tuple_list, isTy_tuple_tuple, isTy_tuple_dict, isTy_dict_bool, isTy_dict_int, isTy_dict_str, isTy_dict_list, isTy_dict_tuple, isTy_dict_dict, Bool.or_true, Bool.or_false, Bool.true_or, Bool.false_or, reduceCtorEq, eq_self, ↓reduceIte, sq_nx, dEqB_bl, dEqB_int, dEqB_non, decide_true]
      simp only [ret_ap, bnd_ap, ask_ap, fail_ap, noE_ap, eName_ap, eOwn_ap, eC_ap, e1_ap, e2_ap, e2g_ap, e3_ap, tst_ap, bAnd_ap, bOr_ap, bNot_ap, bYes_ap, vAnd_ap, vOr_ap, vNot_ap, tru_ap, eIf_ap, aNil_ap, aCons_ap, aStar_ap, eTup_ap, eLst_ap, eTupS_ap, eLstS_ap, eCall_ap, eRef_ap, eIsi_ap, eIsi2_ap, iSeq_ap, iEn_ap, iR1_ap, iR2_ap, iR3_ap, eLc_ap, sNil_ap, sSeq_ap, sFrz_ap, sExpr_ap, sRet_ap, sAsg_ap, sOwn_ap, sIf_ap, sFor_ap, sAug_ap, sApp_ap, sExt_ap, sRaise_ap, gN_ap, gT_ap, gsC_ap, gs0_ap, sq_rt, sq_ex, sq_bk, sq_ct, lp_rt, lp_ex, lp_bk, lp_ct, lp_nx, kS_rt, kS_ex, kS_nx, List.getElem?_cons_zero, List.getElem?_cons_succ, List.set_cons_zero, List.set_cons_succ, Option.bind_some, dLen_lst, dLen_tup, dLen_dct, dLen_str, dAdd_ii, dAdd_ss, dAdd_ll, dAdd_tt, dSub_ii, dMul_ii, dMul_li, dFdiv_ii, dMod_ii, dPow_ii, dNeg_i, dCmp_ii, dSum_l, dAll_l, dAny_l, dAbs_i, dInt_i, dInt_b, dList_l, dList_t, dTuple_l, dTuple_t, dMax2_ii, dMin2_ii, dAddI_ii, dRev_l, dIx_l, dIx_t, dIx_d, orFail_some, orFail_none, tru_non, ty_non, tru_bl, ty_bl, tru_int, ty_int, tru_str, ty_str, tru_lst, ty_lst, tru_tup, ty_tup, tru_dct, ty_dct, its_lst, items_lst, its_tup, items_tup, isL_l, dIsN, dNotN, if_true, if_false, Bool.not_true, Bool.not_false, true_and, and_true, wipeE, isTy_NoneType_bool, isTy_NoneType_int, isTy_NoneType_str, isTy_NoneType_list, isTy_NoneType_tuple, isTy_NoneType_dict, isTy_bool_bool, isTy_bool_int, isTy_bool_str, isTy_bool_list, isTy_bool_tuple, isTy_bool_dict, isTy_int_bool, isTy_int_int, isTy_int_str, isTy_int_list, isTy_int_tuple, isTy_int_dict, isTy_str_bool, isTy_str_int, isTy_str_str, isTy_str_list, isTy_str_tuple, isTy_str_dict, isTy_list_bool, isTy_list_int, isTy_list_str, isTy_list_list, isTy_list_tuple, isTy_list_dict, isTy_tuple_bool, isTy_tuple_int, isTy_tuple_str, isTy_tuple_list, isTy_tuple_tuple, isTy_tuple_dict, isTy_dict_bool, isTy_dict_int, isTy_dict_str, isTy_dict_list, isTy_dict_tuple, isTy_dict_dict, Bool.or_true, Bool.or_false, Bool.true_or, Bool.false_or, reduceCtorEq, eq_self, ↓reduceIte] at q
      exact q
    | _ => cases n <;> simp [D.nar] at hd
mutual
theorem D.eqv_self : ∀ d : D, d.plain = true → PyData.eqv d.toP d.toP = true
  | .non, _ => rfl
  | .bl b, _ => by simp [D.toP, PyData.eqv]
  | .int b, _ => by simp [D.toP, PyData.eqv]
  | .str b, _ => by simp [D.toP, PyData.eqv]
  | .lst xs, h => by
    rw [D.plain] at h
    simpa [D.toP, PyData.eqv] using D.eqvs_self xs h
  | .tup xs, h => by
    rw [D.plain] at h
    simpa [D.toP, PyData.eqv] using D.eqvs_self xs h
  | .dct _, h => by simp [D.plain] at h
  | .obj .., h => by simp [D.plain] at h
  | .fn _, h => by simp [D.plain] at h
  | .row, h => by simp [D.plain] at h
  | .mut _, h => by simp [D.plain] at h
theorem D.eqvs_self : ∀ ds : List D, D.plains ds = true → PyData.eqvAll (D.toPs ds) (D.toPs ds) = true
  | [], _ => by simp [D.toPs, PyData.eqvAll]
  | d :: ds, h => by
    rw [D.plains, Bool.and_eq_true] at h
    rw [D.toPs, PyData.eqvAll, D.eqv_self d h.1, D.eqvs_self ds h.2]
    rfl
end
theorem dEqB_self (f : Bool → Bool) (d : D) (h : d.okd 60 = true) : dEqB f d d W R E = R (.bl (f true)) W := by
  have e : D.eqb d d = true := D.eqv_self d (D.okd_plain 60 d h)
  cases d <;> first | (show ((_ ∧ _) ∧ R (.bl (f (D.eqb _ _))) W) = _; rw [e]; simp only [h, and_self, true_and]) | (show R (.bl (f (decide _))) W = _; rw [decide_eq_true rfl])
theorem dEqB_lst_nil (f : Bool → Bool) (xs : List D) (h : (D.lst xs).okd 60 = true) : dEqB f (.lst xs) (.lst []) W R E = R (.bl (f xs.isEmpty)) W := by
  show (((D.lst xs).okd 60 = true ∧ D.okd 60 (.lst []) = true) ∧ R (.bl (f (D.eqb (.lst xs) (.lst [])))) W) = _
  have e : D.eqb (.lst xs) (.lst []) = xs.isEmpty := by
    cases xs <;> simp [D.eqb, D.toP, D.toPs, PyData.eqv, PyData.eqvAll]
  have e2 : D.okd 60 (.lst []) = true := rfl
  rw [e]
  simp only [h, e2, and_self, true_and]
theorem eSl_ap {env : Env} (F : D → Option Int → Option Int → M D) (fa : Env → M D) (f1 f2 : Env → M (Option Int)) : eSl F fa f1 f2 env W R E = fa env W (fun d W1 => f1 env W1 (fun lo W2 => f2 env W2 (fun hi W3 => F d lo hi W3 R E) E) E) E := id rfl
theorem pN_ap {env : Env} {RO : Option Int → List MO → Prop} : pN env W RO E = RO none W := id rfl
theorem pS_ap {env : Env} {RO : Option Int → List MO → Prop} (f : Env → M D) : pS f env W RO E = f env W (fun d W' => match d with | .int i => RO (some i) W' | _ => False) E := by
  have h : ∀ (W3 : List MO) (d : D), (match d with | .int i => ret (some i) | _ => fail : M (Option Int)) W3 RO E = (match d with | .int i => RO (some i) W3 | _ => False) := fun W3 d => by cases d <;> rfl
  exact congrArg (fun k => f env W k E) (funext fun d => funext fun W' => h W' d)
theorem dSl_l (xs : List D) (lo hi : Option Int) : dSl (.lst xs) lo hi = ret (.lst (Y.cutD xs lo hi)) := id rfl
theorem dSl_t (xs : List D) (lo hi : Option Int) : dSl (.tup xs) lo hi = ret (.tup (Y.cutD xs lo hi)) := id rfl
theorem cut_to (xs : List D) (k : Nat) : Y.cutD xs none (some (k : Int)) = xs.take k := by
  unfold Y.cutD
  rw [HT.sIx_none, HT.sIx_nat, List.drop_zero, Nat.sub_zero]
  by_cases h : k ≤ xs.length
  · rw [Nat.min_eq_left h]
  · rw [Nat.min_eq_right (by omega), List.take_of_length_le (Nat.le_refl _), List.take_of_length_le (by omega)]
theorem cut_from (xs : List D) (k : Nat) : Y.cutD xs (some (k : Int)) none = xs.drop k := by
  unfold Y.cutD
  rw [HT.sIx_none, HT.sIx_nat]
  by_cases h : k ≤ xs.length
  · rw [Nat.min_eq_left h, List.take_of_length_le (by rw [List.length_drop]; omega)]
  · rw [Nat.min_eq_right (by omega), List.drop_of_length_le (Nat.le_refl _), List.drop_of_length_le (by omega), List.take_nil]
theorem dRepr_tup (xs : List D) : dRepr (.tup xs) W R E = (((D.tup xs).okd 60 = true ∧ (D.tup xs).toP.showable = true ∧ (D.tup xs).toP.shown.length ≤ sizeLine) ∧ R (.str (D.tup xs).toP.shown) W) := id rfl
end
end Y

set_option maxRecDepth 100000
set_option maxHeartbeats 1000000
namespace Y
open PySem PySem.Spec PyProof.Rows L2
open PySem.W (AllAlike Sortable dataLe dataLt)
/-! ### whole numbers in their order -/
theorem eq_of_perm {α : Type} {le : α → α → Prop} {l1 l2 : List α} (p : l1.Perm l2) (h1 : l1.Pairwise le) (h2 : l2.Pairwise le) (anti : ∀ x y, le x y → le y x → x = y) : l1 = l2 :=
  p.eq_of_pairwise (fun a b _ _ => anti a b) h1 h2
def ascI (xs : List Int) : List Int := xs.mergeSort fun a b => decide (a ≤ b)
theorem ascI_perm (xs : List Int) : (ascI xs).Perm xs := List.mergeSort_perm _ _
theorem ascI_sorted (xs : List Int) : (ascI xs).Pairwise fun a b => a ≤ b := by
  have := List.pairwise_mergeSort (le := fun a b : Int => decide (a ≤ b)) (fun a b c h1 h2 => by simp at h1 h2 ⊢; omega) (fun a b => by simp; omega) xs
  exact this.imp fun h => of_decide_eq_true h
theorem dLe_int (a b : Int) : dLeS false (.int a) (.int b) = decide (a ≤ b) := by
  show (!dataLt (.int b) (.int a)) = _
  rw [PySem.W.dataLt_int]
  by_cases h : a ≤ b
  · rw [decide_eq_true h, decide_eq_false (by omega)]; rfl
  · rw [decide_eq_false h, decide_eq_true (by omega)]; rfl
theorem dLe_intR (a b : Int) : dLeS true (.int a) (.int b) = decide (b ≤ a) := by
  show (!dataLt (.int a) (.int b)) = _
  rw [PySem.W.dataLt_int]
  by_cases h : b ≤ a
  · rw [decide_eq_true h, decide_eq_false (by omega)]; rfl
  · rw [decide_eq_false h, decide_eq_true (by omega)]; rfl
theorem sort_asc (xs : List Int) : sortD false (xs.map .int) = (ascI xs).map .int := by
  rw [sortD_map]
  unfold ascI
  congr 2
  funext a b
  exact dLe_int a b
theorem sortOk_ints (xs : List Int) : SortOk (xs.map .int) := by
  refine ⟨fun d hd d' hd' => ?_, .inr fun d hd => ?_, fun d hd => ?_⟩
  · rw [List.map_map] at hd hd'
    obtain ⟨a, _, rfl⟩ := List.mem_map.mp hd
    obtain ⟨b, _, rfl⟩ := List.mem_map.mp hd'
    rfl
  · rw [List.map_map] at hd
    obtain ⟨a, _, rfl⟩ := List.mem_map.mp hd
    exact ⟨fun z => (nomatch z), fun _ z => (nomatch z)⟩
  · obtain ⟨a, _, rfl⟩ := List.mem_map.mp hd
    exact ⟨rfl, by simp [D.toP, PyData.depth]⟩
def minI (a : Int) (as : List Int) : Int := as.foldl (fun x y => if y < x then y else x) a
theorem minL_int : ∀ (as : List Int) (a : Int), minL (.int a) (as.map .int) = .int (minI a as)
  | [], a => rfl
  | y :: as, a => by
    show minL (if dataLt (.int y) (.int a) = true then .int y else .int a) (as.map .int) = .int (minI (if y < a then y else a) as)
    rw [PySem.W.dataLt_int, show (if decide (y < a) = true then D.int y else D.int a) = D.int (if y < a then y else a) by by_cases h : y < a <;> simp [h]]
    exact minL_int as _
theorem minI_le : ∀ (as : List Int) (a : Int), minI a as ≤ a ∧ ∀ x ∈ as, minI a as ≤ x
  | [], a => ⟨Int.le_refl a, fun _ z => nomatch z⟩
  | y :: as, a => by
    obtain ⟨h1, h2⟩ := minI_le as (if y < a then y else a)
    refine ⟨?_, fun x hx => ?_⟩
    · show minI _ as ≤ a
      split at h1 <;> rename_i h <;> simp only [h, if_true, if_false] at h1 ⊢ <;> omega
    · rcases List.mem_cons.mp hx with rfl | hx
      · show minI _ as ≤ x
        split at h1 <;> rename_i h <;> simp only [h, if_true, if_false] at h1 ⊢ <;> omega
      · exact h2 x hx
theorem minI_mem : ∀ (as : List Int) (a : Int), minI a as ∈ a :: as
  | [], a => List.mem_singleton.mpr rfl
  | y :: as, a => by
    have := minI_mem as (if y < a then y else a)
    show minI (if y < a then y else a) as ∈ _
    rcases List.mem_cons.mp this with h | h
    · rw [h]
      split
      · simp
      · simp
    · exact List.mem_cons_of_mem _ (List.mem_cons_of_mem _ h)
def maxI (a : Int) (as : List Int) : Int := as.foldl (fun x y => if x < y then y else x) a
theorem maxL_int : ∀ (as : List Int) (a : Int), maxL (.int a) (as.map .int) = .int (maxI a as)
  | [], a => rfl
  | y :: as, a => by
    show maxL (if dataLt (.int a) (.int y) = true then .int y else .int a) (as.map .int) = .int (maxI (if a < y then y else a) as)
    rw [PySem.W.dataLt_int, show (if decide (a < y) = true then D.int y else D.int a) = D.int (if a < y then y else a) by by_cases h : a < y <;> simp [h]]
    exact maxL_int as _
theorem maxI_ge : ∀ (as : List Int) (a : Int), a ≤ maxI a as ∧ ∀ x ∈ as, x ≤ maxI a as
  | [], a => ⟨Int.le_refl a, fun _ z => nomatch z⟩
  | y :: as, a => by
    obtain ⟨h1, h2⟩ := maxI_ge as (if a < y then y else a)
    refine ⟨?_, fun x hx => ?_⟩
    · show a ≤ maxI _ as
      split at h1 <;> rename_i h <;> simp only [h, if_true, if_false] at h1 ⊢ <;> omega
    · rcases List.mem_cons.mp hx with rfl | hx
      · show x ≤ maxI _ as
        split at h1 <;> rename_i h <;> simp only [h, if_true, if_false] at h1 ⊢ <;> omega
      · exact h2 x hx
theorem maxI_mem : ∀ (as : List Int) (a : Int), maxI a as ∈ a :: as
  | [], a => List.mem_singleton.mpr rfl
  | y :: as, a => by
    have := maxI_mem as (if a < y then y else a)
    show maxI (if a < y then y else a) as ∈ _
    rcases List.mem_cons.mp this with h | h
    · rw [h]
      split
      · simp
      · simp
    · exact List.mem_cons_of_mem _ (List.mem_cons_of_mem _ h)
theorem cmpOk_ints (xs : List Int) : CmpOk (xs.map .int) := by
  refine ⟨fun d hd => ?_, fun d hd e he => ?_⟩
  · obtain ⟨a, _, rfl⟩ := List.mem_map.mp hd
    exact ⟨rfl, fun z => nomatch z⟩
  · obtain ⟨a, _, rfl⟩ := List.mem_map.mp hd
    obtain ⟨b, _, rfl⟩ := List.mem_map.mp he
    rfl
/-- max(.., default=0) -/
def max0 : List Int → Int
  | [] => 0
  | a :: as => maxI a as
section
variable {W : List MO} {R : D → List MO → Prop} {E : Exn → List MO → Prop}
theorem dMin_ints (a : Int) (as : List Int) : dMin (.lst ((a :: as).map .int)) W R E = R (.int (minI a as)) W := by
  show (CmpOk ((a :: as).map .int) ∧ R (minL (.int a) (as.map .int)) W) = _
  rw [minL_int, eq_true (cmpOk_ints (a :: as)), true_and]
theorem dMax_ints (a : Int) (as : List Int) : dMax (.lst ((a :: as).map .int)) W R E = R (.int (maxI a as)) W := by
  show (CmpOk ((a :: as).map .int) ∧ R (maxL (.int a) (as.map .int)) W) = _
  rw [maxL_int, eq_true (cmpOk_ints (a :: as)), true_and]
theorem dMax0_ints (xs : List Int) : dMaxZ (.int 0) (.lst (xs.map .int)) W R E = R (.int (max0 xs)) W := by
  cases xs with
  | nil => rfl
  | cons a as =>
    show (CmpOk ((a :: as).map .int) ∧ R (maxL (.int a) (as.map .int)) W) = _
    rw [maxL_int, eq_true (cmpOk_ints (a :: as)), true_and]
    rfl
end
theorem ints_of {lo hi : Int} : ∀ {xs : List D}, (∀ x ∈ xs, ∃ a : Int, x = .int a ∧ lo ≤ a ∧ a < hi) → ∃ r : List Int, xs = r.map .int ∧ ∀ a ∈ r, lo ≤ a ∧ a < hi
  | [], _ => ⟨[], rfl, fun _ z => nomatch z⟩
  | x :: xs, h => by
    obtain ⟨a, rfl, h0, h1⟩ := h x List.mem_cons_self
    obtain ⟨r, rfl, h2⟩ := ints_of fun y hy => h y (List.mem_cons_of_mem _ hy)
    refine ⟨a :: r, rfl, fun b hb => ?_⟩
    rcases List.mem_cons.mp hb with rfl | hb
    · exact ⟨h0, h1⟩
    · exact h2 b hb
theorem okds_ints (n : Nat) (r : List Int) : D.okds n (r.map .int) = true := by
  rw [D.okds_eq]
  exact List.all_eq_true.mpr fun d hd => by obtain ⟨a, _, rfl⟩ := List.mem_map.mp hd; rfl
theorem okd_ints (r : List Int) : (D.lst (r.map .int)).okd 60 = true := by
  show (decide (0 < 60) && D.okds 59 (r.map .int)) = true
  rw [okds_ints]
  rfl
theorem nars_ints (n : Nat) (r : List Int) : D.nars n (r.map .int) = true := by
  induction r with
  | nil => cases n <;> rfl
  | cons x c ih =>
    rw [List.map_cons, D.nars, ih]
    cases n <;> rfl
theorem nar_ints (n : Nat) (r : List Int) (h : r.length ≤ 1000000) : (D.lst (r.map .int)).nar (n + 1) = true := by
  rw [D.nar, nars_ints, Bool.and_true]
  exact decide_eq_true (by rw [List.length_map]; exact h)
theorem atI_int (xs : List Int) (i : Nat) (h : i < xs.length) : atI (xs.map D.int) (i : Nat) = some (.int (xs.getD i 0)) := by
  rw [Y.atI_nat, List.getElem?_map, List.getD_eq_getElem?_getD, List.getElem?_eq_getElem h]
  rfl
section
variable {W : List MO} {K : Ks} {env : Env}
theorem sMulti_ap (is : List Nat) (ks : List Bool) (f : Env → M (List D)) : sMulti is ks f env W K = f env W (fun ds W' => K.nx (giveE is ks ds env) W') K.ex := id rfl
end
/-- an ask's table tells its def -/
theorem callee_of {i n : Nat} {tbl : FTab} {f : Str} {sem : List D → M D} (hl : tbl.lookup f = some (n, sem)) (env : Env) (he : env[i]? = some (.v (.fn f))) : callee i n tbl env = some sem := by
  unfold callee
  rw [he]
  show (match tbl.lookup f with | some p => if p.1 = n then some p.2 else none | none => none) = some sem
  rw [hl]
  show (if n = n then some sem else none) = some sem
  rw [if_pos rfl]
end Y

set_option maxRecDepth 100000
set_option maxHeartbeats 4000000
namespace K19
open PySem PySem.Spec PyProof.Rows L2 Y
def top (i : Nat) : Stmt := PySem.Challenge.pw_oldspares_k19_whole_repairs.main.body.getD i (.Pass ⟨0, 0, 0, 0⟩)
abbrev s_is_integer : Stmt := top 1
abbrev n_is_integer : List Str := ["thing"]
abbrev s_is_within : Stmt := top 2
abbrev n_is_within : List Str := ["thing", "least", "most"]
abbrev s_is_row : Stmt := top 3
abbrev n_is_row : List Str := ["thing"]
abbrev s_check_days : Stmt := top 15
abbrev n_check_days : List Str := ["days", "turn", "index", "day"]
abbrev s_away : Stmt := top 16
abbrev n_away : List Str := ["days", "backs", "found", "index", "day", "back"]
abbrev s_told_away : Stmt := top 17
abbrev n_told_away : List Str := ["days", "turn", "day"]
abbrev s_spares_needed : Stmt := top 18
abbrev n_spares_needed : List Str := ["days", "turn"]
abbrev s_first_without : Stmt := top 19
abbrev n_first_without : List Str := ["days", "turn", "spares", "index", "many"]
abbrev s_busy_days : Stmt := top 20
abbrev n_busy_days : List Str := ["days", "turn", "rows", "first", "day", "other"]
abbrev s_told_backs : Stmt := top 21
abbrev n_told_backs : List Str := ["days", "turn", "places", "free", "found", "day", "begin", "_"]
abbrev s_check_places : Stmt := top 22
abbrev n_check_places : List Str := ["places"]
abbrev s_with_shop : Stmt := top 23
abbrev n_with_shop : List Str := ["days", "turn", "places"]
abbrev s_shop_spares : Stmt := top 24
abbrev n_shop_spares : List Str := ["days", "turn", "places"]
abbrev s_law_taken : Stmt := top 26
abbrev n_law_taken : List Str := ["row", "many", "found", "cell"]
abbrev s_law_pick : Stmt := top 27
abbrev n_law_pick : List Str := ["row", "some"]
abbrev s_law_alike : Stmt := top 28
abbrev n_law_alike : List Str := ["found", "due", "k", "key"]
abbrev s_law_first : Stmt := top 29
abbrev n_law_first : List Str := ["days", "backs", "spares", "left", "waiting", "at", "day", "come", "back"]
abbrev s_law_shop : Stmt := top 30
abbrev n_law_shop : List Str := ["days", "turn", "places", "busy", "queue", "backs", "day", "k", "j", "one", "at"]
abbrev s_law_refused : Stmt := top 31
abbrev n_law_refused : List Str := ["ask", "e"]
abbrev s_law : Stmt := top 32
abbrev n_law : List Str := ["script", "row", "many", "most", "days", "turn", "places", "plain", "shop", "backs", "told", "spares", "first", "best", "day", "number", "odd", "bad", "ask", "k", "other"]
abbrev s_ini : Stmt := inClass (top 5) 0
def rcs : List RC := [⟨"BadDays", "days", false⟩, ⟨"BadPlaces", "places", false⟩, ⟨"BadSpares", "spares", false⟩, ⟨"BadTurn", "turn", false⟩]
def sm_is_integer : SM := (sRet (vAnd (eIsi "int" (eName 0)) (vNot (eIsi "bool" (eName 0)))))
def c_is_integer : List D → M D := semF n_is_integer sm_is_integer
def sm_is_within : SM := (sRet (vAnd (eCall c_is_integer (aCons (eName 0) aNil)) (e3 dLe dLe (eName 1) (eName 0) (eName 2))))
def c_is_within : List D → M D := semF n_is_within sm_is_within
def sm_is_row : SM := (sRet (eIsi2 "list" "tuple" (eName 0)))
def c_is_row : List D → M D := semF n_is_row sm_is_row
def sm_check_days : SM := (sSeq (sIf (bOr (bNot (tru (eCall c_is_row (aCons (eName 0) aNil)))) (tst (e2 dGt (e1 dLen (eName 0)) (eC (.int 60))))) (sRaise "BadDays" (e1 dNeg (eC (.int 1)))) sNil) (sSeq (sFor (iEn (eName 0)) (gT (gsC (gN 2) (gsC (gN 3) gs0))) (sIf (bOr (bNot (tru (eCall c_is_within (aCons (eName 3) (aCons (eC (.int 0)) (aCons (eC (.int 10000)) aNil)))))) (bAnd (tst (e2 dGt (eName 2) (eC (.int 0)))) (tst (e2 dLt (eName 3) (e2 dIx (eName 0) (e2 dSub (eName 2) (eC (.int 1)))))))) (sRaise "BadDays" (eName 2)) sNil)) (sIf (bNot (tru (eCall c_is_within (aCons (eName 1) (aCons (eC (.int 1)) (aCons (eC (.int 1000)) aNil)))))) (sRaise "BadTurn" (eName 1)) sNil)))
def c_check_days : List D → M D := semF n_check_days sm_check_days
def sm_away : SM := (sSeq (sOwn 2 (eLst aNil)) (sSeq (sFor (iEn (eName 0)) (gT (gsC (gN 3) (gsC (gN 4) gs0))) (sApp 2 (e1 dLen (eLc [5] (gN 5) (tst (e2 dGt (eName 5) (eName 4))) (eName 5) (iSeq (eSl dSl (eName 1) pN (pS (e2 dAdd (eName 3) (eC (.int 1)))))))))) (sFrz 2 (sRet (eName 2)))))
def c_away : List D → M D := semF n_away sm_away
def sm_told_away : SM := (sRet (eCall c_away (aCons (eName 0) (aCons (eLc [2] (gN 2) bYes (e2 dAdd (eName 2) (eName 1)) (iSeq (eName 0))) aNil))))
def c_told_away : List D → M D := semF n_told_away sm_told_away
def sm_spares_needed : SM := (sSeq (sExpr (eCall c_check_days (aCons (eName 0) (aCons (eName 1) aNil)))) (sRet (e1 (dMaxZ (.int 0)) (eCall c_told_away (aCons (eName 0) (aCons (eName 1) aNil))))))
def c_spares_needed : List D → M D := semF n_spares_needed sm_spares_needed
def sm_first_without : SM := (sSeq (sExpr (eCall c_check_days (aCons (eName 0) (aCons (eName 1) aNil)))) (sSeq (sIf (bNot (tru (eCall c_is_within (aCons (eName 2) (aCons (eC (.int 0)) (aCons (eC (.int 60)) aNil)))))) (sRaise "BadSpares" (eName 2)) sNil) (sSeq (sFor (iEn (eCall c_told_away (aCons (eName 0) (aCons (eName 1) aNil)))) (gT (gsC (gN 3) (gsC (gN 4) gs0))) (sIf (tst (e2 dGt (eName 4) (eName 2))) (sRet (eName 3)) sNil)) (sRet (eC .non)))))
def c_first_without : List D → M D := semF n_first_without sm_first_without
def sm_busy_days : SM := (sSeq (sExpr (eCall c_check_days (aCons (eName 0) (aCons (eName 1) aNil)))) (sSeq (sAsg (gN 2) (eLc [4] (gN 4) bYes (eTup (aCons (e1 dNeg (e1 dLen (eLc [5] (gN 5) (tst (e3 dLe dLt (eName 4) (eName 5) (e2 dAdd (eName 4) (eName 1)))) (eName 5) (iSeq (eName 0))))) (aCons (eName 4) aNil))) (iSeq (eName 0)))) (sSeq (sIf (bNot (tru (eName 2))) (sRet (eC .non)) sNil) (sSeq (sAsg (gN 3) (e2 dIx (e1 dMin (eName 2)) (eC (.int 1)))) (sRet (eTup (aCons (eName 3) (aCons (e2 dSub (e2 dAdd (eName 3) (eName 1)) (eC (.int 1))) aNil))))))))
def c_busy_days : List D → M D := semF n_busy_days sm_busy_days
def sm_told_backs : SM := (sSeq (sOwn 3 (eLc [7] (gN 7) bYes (eC (.int 0)) (iR1 (aCons (eName 2) aNil)))) (sSeq (sOwn 4 (eLst aNil)) (sSeq (sFor (iSeq (eName 0)) (gN 5) (sSeq (sAsg (gN 6) (e2 dMax2 (eName 5) (e1 dMin (eOwn 3)))) (sSeq (sPut 3 (e2g D.isL dIndex (eOwn 3) (e1 dMin (eOwn 3))) (e2 dAdd (eName 6) (eName 1))) (sApp 4 (e2 dAdd (eName 6) (eName 1)))))) (sFrz 4 (sRet (eName 4))))))
def c_told_backs : List D → M D := semF n_told_backs sm_told_backs
def sm_check_places : SM := (sIf (bNot (tru (eCall c_is_within (aCons (eName 0) (aCons (eC (.int 1)) (aCons (eC (.int 20)) aNil)))))) (sRaise "BadPlaces" (eName 0)) sNil)
def c_check_places : List D → M D := semF n_check_places sm_check_places
def sm_with_shop : SM := (sSeq (sExpr (eCall c_check_days (aCons (eName 0) (aCons (eName 1) aNil)))) (sSeq (sExpr (eCall c_check_places (aCons (eName 2) aNil))) (sRet (eCall c_told_backs (aCons (eName 0) (aCons (eName 1) (aCons (eName 2) aNil)))))))
def c_with_shop : List D → M D := semF n_with_shop sm_with_shop
def sm_shop_spares : SM := (sSeq (sExpr (eCall c_check_days (aCons (eName 0) (aCons (eName 1) aNil)))) (sSeq (sExpr (eCall c_check_places (aCons (eName 2) aNil))) (sRet (e1 (dMaxZ (.int 0)) (eCall c_away (aCons (eName 0) (aCons (eCall c_told_backs (aCons (eName 0) (aCons (eName 1) (aCons (eName 2) aNil)))) aNil)))))))
def c_shop_spares : List D → M D := semF n_shop_spares sm_shop_spares
def sm_law_pick : SM := (sRet (e2 dIx (eName 1) (eCall sTaken (aCons (eName 0) (aCons (e1 dLen (eName 1)) aNil)))))
def c_law_pick : List D → M D := semF n_law_pick sm_law_pick
def sm_law_alike (rec : List D → M D) : SM := (sSeq (sIf (tru (eIsi2 "tuple" "list" (eName 1))) (sSeq (sIf (bOr (bNot (tru (eIsi2 "tuple" "list" (eName 0)))) (tst (e2 dNe (eIsi "list" (eName 0)) (eIsi "list" (eName 1))))) (sRet (eC (.bl false))) sNil) (sSeq (sIf (tst (e2 dNe (e1 dLen (eName 0)) (e1 dLen (eName 1)))) (sRet (eC (.bl false))) sNil) (sRet (e2 dEq (eLc [2] (gN 2) (bNot (tru (eCall rec (aCons (e2 dIx (eName 0) (eName 2)) (aCons (e2 dIx (eName 1) (eName 2)) aNil))))) (eName 2) (iR1 (aCons (e1 dLen (eName 1)) aNil))) (eLst aNil))))) sNil) (sSeq (sIf (tru (eIsi "dict" (eName 1))) (fun _ _ _ => False) sNil) (sSeq (sIf (bOr (tst (e2 dIsN (eName 1) (eC .non))) (tru (eIsi "str" (eName 1)))) (sRet (vAnd (e2 dEq (eName 0) (eName 1)) (e2 dEq (eIsi "str" (eName 0)) (eIsi "str" (eName 1))))) sNil) (sRet (vAnd (eIsi "int" (eName 0)) (vAnd (e2 dEq (eIsi "bool" (eName 0)) (eIsi "bool" (eName 1))) (e2 dEq (eName 0) (eName 1))))))))
def c_law_alike : Nat → List D → M D
  | 0 => semF n_law_alike fun _ _ _ => False
  | n + 1 => semF n_law_alike (sm_law_alike (c_law_alike n))
def sm_law_first : SM := (sSeq (sMulti [3, 4] [false, true] (aCons (eName 2) (aCons (eLst aNil) aNil))) (sSeq (sFor (iEn (eName 0)) (gT (gsC (gN 5) (gsC (gN 6) gs0))) (sSeq (sAsg (gN 7) (eLc [8] (gN 8) (tst (e2 dLe (eName 8) (eName 6))) (eName 8) (iSeq (eOwn 4)))) (sSeq (sOwn 4 (eLc [8] (gN 8) (tst (e2 dGt (eName 8) (eName 6))) (eName 8) (iSeq (eOwn 4)))) (sSeq (sAsg (gN 3) (e2 dAdd (eName 3) (e1 dLen (eName 7)))) (sSeq (sIf (tst (e2 dEq (eName 3) (eC (.int 0)))) (sRet (eName 5)) sNil) (sSeq (sAsg (gN 3) (e2 dSub (eName 3) (eC (.int 1)))) (sApp 4 (e2 dIx (eName 1) (eName 5))))))))) (sRet (e1 dNeg (eC (.int 1))))))
def c_law_first : List D → M D := semF n_law_first sm_law_first
def sm_law_shop : SM := (sSeq (sMulti [3, 4, 5, 6] [true, false, true, false] (aCons (eLst aNil) (aCons (eLst aNil) (aCons (eLst aNil) (aCons (eC (.int 0)) aNil))))) (sSeq (sFor (iR1 (aCons (e2 dAdd (e2 dAdd (e2 dMul (e1 dLen (eName 0)) (e2 dAdd (eName 1) (eC (.int 1)))) (e1 dMax (e2 dAdd (eName 0) (eLst (aCons (eC (.int 0)) aNil))))) (eC (.int 2))) aNil)) (gN 7) (sSeq (sOwn 3 (eLc [9] (gN 9) (tst (e2 dGt (e2 dIx (eName 9) (eC (.int 1))) (eName 6))) (eName 9) (iSeq (eOwn 3)))) (sSeq (sAsg (gN 4) (e2 dAdd (eName 4) (eLc [10] (gN 10) (tst (e2 dEq (e2 dIx (eName 0) (eName 10)) (eName 6))) (eName 10) (iR1 (aCons (e1 dLen (eName 0)) aNil))))) (sSeq (sFor (iR1 (aCons (eName 2) aNil)) (gN 8) (sIf (bAnd (tst (e2 dLt (e1 dLen (eOwn 3)) (eName 2))) (tst (e2 dNe (eName 4) (eLst aNil)))) (sSeq (sApp 3 (eTup (aCons (e2 dIx (eName 4) (eC (.int 0))) (aCons (e2 dAdd (eName 6) (eName 1)) aNil)))) (sSeq (sApp 5 (e2 dAdd (eName 6) (eName 1))) (sAsg (gN 4) (eSl dSl (eName 4) (pS (eC (.int 1))) pN)))) sNil)) (sAsg (gN 6) (e2 dAdd (eName 6) (eC (.int 1)))))))) (sFrz 5 (sRet (eName 5)))))
def c_law_shop : List D → M D := semF n_law_shop sm_law_shop
def tbl_spares_needed_busy_days_with_shop_shop_spares : FTab := [("spares_needed", 2, c_spares_needed), ("busy_days", 2, c_busy_days), ("with_shop", 3, c_with_shop), ("shop_spares", 3, c_shop_spares)]
def sm_law : SM := (sSeq (sAsg (gT (gsC (gN 2) (gsC (gN 3) gs0))) (eIf (tst (e2 dEq (eCall sTaken (aCons (eName 1) (aCons (eC (.int 5)) aNil))) (eC (.int 0)))) (eTup (aCons (eC (.int 60)) (aCons (eC (.int 300)) aNil))) (eTup (aCons (eC (.int 12)) (aCons (eC (.int 30)) aNil))))) (sSeq (sAsg (gN 4) (e1 (dSorted false) (eLc [19] (gN 19) bYes (eCall sTaken (aCons (eName 1) (aCons (eName 3) aNil))) (iR1 (aCons (eCall sTaken (aCons (eName 1) (aCons (e2 dAdd (eName 2) (eC (.int 1))) aNil))) aNil))))) (sSeq (sMulti [5, 6] [false, false] (aCons (e2 dAdd (eC (.int 1)) (eCall sTaken (aCons (eName 1) (aCons (eC (.int 12)) aNil)))) (aCons (e2 dAdd (eC (.int 1)) (eCall sTaken (aCons (eName 1) (aCons (eC (.int 4)) aNil)))) aNil))) (sSeq (sMulti [7, 8] [false, false] (aCons (eLc [14] (gN 14) bYes (e2 dAdd (eName 14) (eName 5)) (iSeq (eName 4))) (aCons (eCall c_law_shop (aCons (eName 4) (aCons (eName 5) (aCons (eName 6) aNil)))) aNil))) (sSeq (sIf (bNot (tru (eCall (c_law_alike 8) (aCons (eCall c_with_shop (aCons (e1 dTuple (eName 4)) (aCons (eName 5) (aCons (eName 6) aNil)))) (aCons (eName 8) aNil))))) (sRet (eC (.bl false))) sNil) (sSeq (sFor (iSeq (eLst (aCons (eTup (aCons (eName 7) (aCons (eCall c_spares_needed (aCons (e1 dTuple (eName 4)) (aCons (eName 5) aNil))) aNil))) (aCons (eTup (aCons (eName 8) (aCons (eCall c_shop_spares (aCons (eName 4) (aCons (eName 5) (aCons (eName 6) aNil)))) aNil))) aNil)))) (gT (gsC (gN 9) (gsC (gN 10) gs0))) (sSeq (sIf (bOr (bNot (tru (eIsi "int" (eName 10)))) (bOr (tst (e2 dNe (eCall c_law_first (aCons (eName 4) (aCons (eName 9) (aCons (eName 10) aNil)))) (e1 dNeg (eC (.int 1))))) (bAnd (tst (e2 dGt (eName 10) (eC (.int 0)))) (tst (e2 dLt (eCall c_law_first (aCons (eName 4) (aCons (eName 9) (aCons (e2 dSub (eName 10) (eC (.int 1))) aNil)))) (eC (.int 0))))))) (sRet (eC (.bl false))) sNil) (sIf (tst (e2 dNe (e2 dEq (eName 10) (eC (.int 0))) (e2 dEq (eName 4) (eLst aNil)))) (sRet (eC (.bl false))) sNil))) (sSeq (sFor (iR1 (aCons (e2 dAdd (e2 dMin2 (e1 dLen (eName 4)) (eC (.int 8))) (eC (.int 2))) aNil)) (gN 11) (sSeq (sAsg (gN 12) (eCall c_law_first (aCons (eName 4) (aCons (eName 7) (aCons (eName 11) aNil))))) (sIf (bNot (tru (eCall (c_law_alike 8) (aCons (eCall c_first_without (aCons (eName 4) (aCons (eName 5) (aCons (eName 11) aNil)))) (aCons (eIf (tst (e2 dGe (eName 12) (eC (.int 0)))) (eName 12) (eC .non)) aNil))))) (sRet (eC (.bl false))) sNil))) (sSeq (sAsg (gN 13) (eC .non)) (sSeq (sFor (iSeq (eName 4)) (gN 14) (sSeq (sAsg (gN 15) (e1 dLen (eLc [20] (gN 20) (tst (e3 dLe dLt (eName 14) (eName 20) (e2 dAdd (eName 14) (eName 5)))) (eName 20) (iSeq (eName 4))))) (sIf (bOr (tst (e2 dIsN (eName 13) (eC .non))) (tst (e2 dGt (eName 15) (e2 dIx (eName 13) (eC (.int 0)))))) (sAsg (gN 13) (eTup (aCons (eName 15) (aCons (eName 14) aNil)))) sNil))) (sSeq (sIf (bNot (tru (eCall (c_law_alike 8) (aCons (eCall c_busy_days (aCons (eName 4) (aCons (eName 5) aNil))) (aCons (eIf (tst (e2 dIsN (eName 13) (eC .non))) (eC .non) (eTup (aCons (e2 dIx (eName 13) (eC (.int 1))) (aCons (e2 dSub (e2 dAdd (e2 dIx (eName 13) (eC (.int 1))) (eName 5)) (eC (.int 1))) aNil)))) aNil))))) (sRet (eC (.bl false))) sNil) (sSeq (sIf (bAnd (tst (e2 dNotN (eName 13) (eC .non))) (tst (e2 dNe (eCall c_spares_needed (aCons (eName 4) (aCons (eName 5) aNil))) (e2 dIx (eName 13) (eC (.int 0)))))) (sRet (eC (.bl false))) sNil) (sSeq (sAsg (gN 16) (eCall c_law_pick (aCons (eName 1) (aCons (eLst (aCons (eC (.int 0)) (aCons (eC (.int 1001)) (aCons (eC .non) (aCons (eC (.bl true)) aNil))))) aNil)))) (sSeq (sAsg (gN 17) (e2 dAdd (eSl dSl (eName 4) pN (pS (eC (.int 59)))) (eLst (aCons (eCall c_law_pick (aCons (eName 1) (aCons (e2 dAdd (eLst (aCons (e1 dNeg (eC (.int 1))) (aCons (eC (.int 10001)) (aCons (eC .non) (aCons (eC (.bl true)) aNil))))) (eIf (tst (e2 dNe (eName 4) (eLst aNil))) (eLst (aCons (e2 dSub (e2 dIx (eSl dSl (eName 4) pN (pS (eC (.int 59)))) (e1 dNeg (eC (.int 1)))) (eC (.int 1))) aNil)) (eLst aNil))) aNil))) aNil)))) (sSeq (sFor (iSeq (eLst (aCons (eC (.fn "spares_needed")) (aCons (eC (.fn "busy_days")) aNil)))) (gN 18) (sSeq (sIf (tst (e2 dNe (e1 dRepr (eRef rcs (eCallL 18 2 tbl_spares_needed_busy_days_with_shop_shop_spares (aCons (eName 4) (aCons (eName 16) aNil))))) (e1 dRepr (eTup (aCons (eC (.str "turn")) (aCons (eName 16) aNil)))))) (sRet (eC (.bl false))) sNil) (sIf (tst (e2 dNe (eRef rcs (eCallL 18 2 tbl_spares_needed_busy_days_with_shop_shop_spares (aCons (eName 17) (aCons (eName 16) aNil)))) (eTup (aCons (eC (.str "days")) (aCons (e2 dSub (e1 dLen (eName 17)) (eC (.int 1))) aNil))))) (sRet (eC (.bl false))) sNil))) (sSeq (sFor (iSeq (eLst (aCons (eC (.fn "with_shop")) (aCons (eC (.fn "shop_spares")) aNil)))) (gN 18) (sSeq (sIf (tst (e2 dNe (eRef rcs (eCallL 18 3 tbl_spares_needed_busy_days_with_shop_shop_spares (aCons (eCall c_law_pick (aCons (eName 1) (aCons (eLst (aCons (eC .non) (aCons (e2 dMul (eLst (aCons (eC (.int 1)) aNil)) (eC (.int 61))) (aCons (eC (.int 5)) aNil)))) aNil))) (aCons (eName 16) (aCons (eC .non) aNil))))) (eTup (aCons (eC (.str "days")) (aCons (e1 dNeg (eC (.int 1))) aNil))))) (sRet (eC (.bl false))) sNil) (sSeq (sIf (tst (e2 dNe (e1 dRepr (eRef rcs (eCallL 18 3 tbl_spares_needed_busy_days_with_shop_shop_spares (aCons (eName 4) (aCons (eName 16) (aCons (eC .non) aNil)))))) (e1 dRepr (eTup (aCons (eC (.str "turn")) (aCons (eName 16) aNil)))))) (sRet (eC (.bl false))) sNil) (sIf (tst (e2 dNe (eRef rcs (eCallL 18 3 tbl_spares_needed_busy_days_with_shop_shop_spares (aCons (eName 4) (aCons (eC (.int 1)) (aCons (eC (.int 21)) aNil))))) (eTup (aCons (eC (.str "places")) (aCons (eC (.int 21)) aNil))))) (sRet (eC (.bl false))) sNil)))) (sRet (e2 dEq (eRef rcs (eCall c_first_without (aCons (eName 4) (aCons (eName 5) (aCons (e1 dNeg (eC (.int 1))) aNil))))) (eTup (aCons (eC (.str "spares")) (aCons (e1 dNeg (eC (.int 1))) aNil))))))))))))))))))))
structure Tx (K : PySem.W.Frag) (mg : Str → Option Value) : Prop where
  b_bool : mg "bool" = none
  b_dict : mg "dict" = none
  b_enumerate : mg "enumerate" = none
  b_int : mg "int" = none
  b_isinstance : mg "isinstance" = none
  b_len : mg "len" = none
  b_list : mg "list" = none
  b_max : mg "max" = none
  b_min : mg "min" = none
  b_range : mg "range" = none
  b_repr : mg "repr" = none
  b_sorted : mg "sorted" = none
  b_str : mg "str" = none
  b_tuple : mg "tuple" = none
  t_is_integer : FnT K mg "is_integer" s_is_integer ["thing"]
  t_is_within : FnT K mg "is_within" s_is_within ["thing", "least", "most"]
  t_is_row : FnT K mg "is_row" s_is_row ["thing"]
  t_check_days : FnT K mg "check_days" s_check_days ["days", "turn"]
  t_away : FnT K mg "away" s_away ["days", "backs"]
  t_told_away : FnT K mg "told_away" s_told_away ["days", "turn"]
  t_spares_needed : FnT K mg "spares_needed" s_spares_needed ["days", "turn"]
  t_first_without : FnT K mg "first_without" s_first_without ["days", "turn", "spares"]
  t_busy_days : FnT K mg "busy_days" s_busy_days ["days", "turn"]
  t_told_backs : FnT K mg "told_backs" s_told_backs ["days", "turn", "places"]
  t_check_places : FnT K mg "check_places" s_check_places ["places"]
  t_with_shop : FnT K mg "with_shop" s_with_shop ["days", "turn", "places"]
  t_shop_spares : FnT K mg "shop_spares" s_shop_spares ["days", "turn", "places"]
  t__law_taken : FnT K mg "_law_taken" s_law_taken ["row", "many"]
  t__law_pick : FnT K mg "_law_pick" s_law_pick ["row", "some"]
  t__law_alike : FnT K mg "_law_alike" s_law_alike ["found", "due"]
  t__law_first : FnT K mg "_law_first" s_law_first ["days", "backs", "spares"]
  t__law_shop : FnT K mg "_law_shop" s_law_shop ["days", "turn", "places"]
  g_MOST_DAY : ∃ t, mg "MOST_DAY" = some (.int 10000 t)
  g_MOST_DAYS : ∃ t, mg "MOST_DAYS" = some (.int 60 t)
  g_MOST_PLACES : ∃ t, mg "MOST_PLACES" = some (.int 20 t)
  g_MOST_TURN : ∃ t, mg "MOST_TURN" = some (.int 1000 t)
  e_BadDays : Ec K mg "BadDays"
  e_BadPlaces : Ec K mg "BadPlaces"
  e_BadSpares : Ec K mg "BadSpares"
  e_BadTurn : Ec K mg "BadTurn"
  refu : Refu K mg "_law_refused" "ask" rcs
theorem sc_is_integer : FnScope n_is_integer ["thing"] (defScope s_is_integer) := ⟨rfl, rfl, rfl, by decide +kernel, rfl, by decide +kernel, by decide +kernel⟩
theorem sc_is_within : FnScope n_is_within ["thing", "least", "most"] (defScope s_is_within) := ⟨rfl, rfl, rfl, by decide +kernel, rfl, by decide +kernel, by decide +kernel⟩
theorem sc_is_row : FnScope n_is_row ["thing"] (defScope s_is_row) := ⟨rfl, rfl, rfl, by decide +kernel, rfl, by decide +kernel, by decide +kernel⟩
theorem sc_check_days : FnScope n_check_days ["days", "turn"] (defScope s_check_days) := ⟨rfl, rfl, rfl, by decide +kernel, rfl, by decide +kernel, by decide +kernel⟩
theorem sc_away : FnScope n_away ["days", "backs"] (defScope s_away) := ⟨rfl, rfl, rfl, by decide +kernel, rfl, by decide +kernel, by decide +kernel⟩
theorem sc_told_away : FnScope n_told_away ["days", "turn"] (defScope s_told_away) := ⟨rfl, rfl, rfl, by decide +kernel, rfl, by decide +kernel, by decide +kernel⟩
theorem sc_spares_needed : FnScope n_spares_needed ["days", "turn"] (defScope s_spares_needed) := ⟨rfl, rfl, rfl, by decide +kernel, rfl, by decide +kernel, by decide +kernel⟩
theorem sc_first_without : FnScope n_first_without ["days", "turn", "spares"] (defScope s_first_without) := ⟨rfl, rfl, rfl, by decide +kernel, rfl, by decide +kernel, by decide +kernel⟩
theorem sc_busy_days : FnScope n_busy_days ["days", "turn"] (defScope s_busy_days) := ⟨rfl, rfl, rfl, by decide +kernel, rfl, by decide +kernel, by decide +kernel⟩
theorem sc_told_backs : FnScope n_told_backs ["days", "turn", "places"] (defScope s_told_backs) := ⟨rfl, rfl, rfl, by decide +kernel, rfl, by decide +kernel, by decide +kernel⟩
theorem sc_check_places : FnScope n_check_places ["places"] (defScope s_check_places) := ⟨rfl, rfl, rfl, by decide +kernel, rfl, by decide +kernel, by decide +kernel⟩
theorem sc_with_shop : FnScope n_with_shop ["days", "turn", "places"] (defScope s_with_shop) := ⟨rfl, rfl, rfl, by decide +kernel, rfl, by decide +kernel, by decide +kernel⟩
theorem sc_shop_spares : FnScope n_shop_spares ["days", "turn", "places"] (defScope s_shop_spares) := ⟨rfl, rfl, rfl, by decide +kernel, rfl, by decide +kernel, by decide +kernel⟩
theorem sc_law_taken : FnScope n_law_taken ["row", "many"] (defScope s_law_taken) := ⟨rfl, rfl, rfl, by decide +kernel, rfl, by decide +kernel, by decide +kernel⟩
theorem sc_law_pick : FnScope n_law_pick ["row", "some"] (defScope s_law_pick) := ⟨rfl, rfl, rfl, by decide +kernel, rfl, by decide +kernel, by decide +kernel⟩
theorem sc_law_alike : FnScope n_law_alike ["found", "due"] (defScope s_law_alike) := ⟨rfl, rfl, rfl, by decide +kernel, rfl, by decide +kernel, by decide +kernel⟩
theorem sc_law_first : FnScope n_law_first ["days", "backs", "spares"] (defScope s_law_first) := ⟨rfl, rfl, rfl, by decide +kernel, rfl, by decide +kernel, by decide +kernel⟩
theorem sc_law_shop : FnScope n_law_shop ["days", "turn", "places"] (defScope s_law_shop) := ⟨rfl, rfl, rfl, by decide +kernel, rfl, by decide +kernel, by decide +kernel⟩
theorem sc_law_refused : FnScope n_law_refused ["ask"] (defScope s_law_refused) := ⟨rfl, rfl, rfl, by decide +kernel, rfl, by decide +kernel, by decide +kernel⟩
theorem sc_law : FnScope n_law ["script"] (defScope s_law) := ⟨rfl, rfl, rfl, by decide +kernel, rfl, by decide +kernel, by decide +kernel⟩
section
variable {P : Program} {w : World} {K : PySem.W.Frag} {mg : Str → Option Value} {base : Heap}
theorem d_is_integer (T : Tx K mg) {f : Addr} {cdv : Value} {A : Around} {outer : List PySem.Env} {s : Shared} {H : Hp} {E : XK} (hr : Room 3 (A.deeper (envOfC "is_integer" (defScope s_is_integer) s.heap.objs.size f cdv))) (G : Gx (Xf P w K mg base n_is_integer "is_integer" (defScope s_is_integer) f cdv A outer s H E) E) : JSs (Xf P w K mg base n_is_integer "is_integer" (defScope s_is_integer) f cdv A outer s H E) E (defBody s_is_integer) sm_is_integer :=
  (jss_one (js_ret (je_and (je_isi (T := "int") (by decide +kernel) (by decide) T.b_isinstance T.b_int (JE.stWk (je_name 0))) (je_one (je_not (je_isi (T := "bool") (by decide +kernel) (by decide) T.b_isinstance T.b_bool (JE.stWk (je_name 0))))))))
theorem fn_is_integer (T : Tx K mg) : Fn P w K mg base 4 "is_integer" 1 c_is_integer := fn_of' (k := 3) T.t_is_integer sc_is_integer fun f cdv A outer s H E hr G => d_is_integer T hr G
theorem d_is_within (T : Tx K mg) {f : Addr} {cdv : Value} {A : Around} {outer : List PySem.Env} {s : Shared} {H : Hp} {E : XK} (hr : Room 4 (A.deeper (envOfC "is_within" (defScope s_is_within) s.heap.objs.size f cdv))) (G : Gx (Xf P w K mg base n_is_within "is_within" (defScope s_is_within) f cdv A outer s H E) E) : JSs (Xf P w K mg base n_is_within "is_within" (defScope s_is_within) f cdv A outer s H E) E (defBody s_is_within) sm_is_within :=
  (jss_one (js_ret (je_and (je_call ((fn_is_integer T).mono (by omega)) hr G.pa (ja_cons (je_name 0) ja_nil)) (je_one (je_chain (F := dLe) (F' := dLe) op_le op_le op2_cmp op2_cmp (JE.stWk (je_name 1)) (JE.stWk (je_name 0)) (JE.stWk (je_name 2)))))))
theorem fn_is_within (T : Tx K mg) : Fn P w K mg base 5 "is_within" 3 c_is_within := fn_of' (k := 4) T.t_is_within sc_is_within fun f cdv A outer s H E hr G => d_is_within T hr G
theorem d_is_row (T : Tx K mg) {f : Addr} {cdv : Value} {A : Around} {outer : List PySem.Env} {s : Shared} {H : Hp} {E : XK} (hr : Room 3 (A.deeper (envOfC "is_row" (defScope s_is_row) s.heap.objs.size f cdv))) (G : Gx (Xf P w K mg base n_is_row "is_row" (defScope s_is_row) f cdv A outer s H E) E) : JSs (Xf P w K mg base n_is_row "is_row" (defScope s_is_row) f cdv A outer s H E) E (defBody s_is_row) sm_is_row :=
  (jss_one (js_ret (je_isi2 (T := "list") (U := "tuple") (by decide +kernel) (by decide +kernel) (by decide) (by decide) T.b_isinstance T.b_list T.b_tuple (JE.stWk (je_name 0)))))
theorem fn_is_row (T : Tx K mg) : Fn P w K mg base 4 "is_row" 1 c_is_row := fn_of' (k := 3) T.t_is_row sc_is_row fun f cdv A outer s H E hr G => d_is_row T hr G
theorem d_check_days (T : Tx K mg) {f : Addr} {cdv : Value} {A : Around} {outer : List PySem.Env} {s : Shared} {H : Hp} {E : XK} (hr : Room 5 (A.deeper (envOfC "check_days" (defScope s_check_days) s.heap.objs.size f cdv))) (G : Gx (Xf P w K mg base n_check_days "check_days" (defScope s_check_days) f cdv A outer s H E) E) : JSs (Xf P w K mg base n_check_days "check_days" (defScope s_check_days) f cdv A outer s H E) E (defBody s_check_days) sm_check_days :=
  (jss_cons (js_if (JW.jt (jw_or (jt_not (jt_tru (JE.stWk (je_call ((fn_is_row T).mono (by omega)) hr G.pa (ja_cons (je_name 0) ja_nil))))) (jw_or1 (jt_cmp (F := dGt) op_gt op2_cmp (JE.stWk (je_b1 (F := dLen) cr_len op1_len T.b_len (by decide +kernel) (JE.stWk (je_name 0)))) (JE.stWk (je_gintE T.g_MOST_DAYS)))))) (jss_one (js_raise G (hr.mono (by omega)) T.e_BadDays (je_un (F := dNeg) un_neg op1_neg (JE.stWk je_int)))) jss_nil) (jss_cons (js_for G (gown_tup (gowns_cons (gown_name 2) (gowns_cons (gown_name 3) gowns_nil))) (ji_enum T.b_enumerate (je_name 0)) (jg_tup G.calm (jgs_cons (jg_name 2 G.nd) (jgs_cons (jg_name 3 G.nd) jgs_nil))) (jss_one (js_if (JW.jt (jw_or (jt_not (jt_tru (JE.stWk (je_call ((fn_is_within T).mono (by omega)) hr G.pa (ja_cons (je_name 3) (ja_cons je_int (ja_cons (je_gintE T.g_MOST_DAY) ja_nil))))))) (jw_or1 (JW.jt (jw_and (jt_cmp (F := dGt) op_gt op2_cmp (JE.stWk (je_name 2)) (JE.stWk je_int)) (jw_and1 (jt_cmp (F := dLt) op_lt op2_cmp (JE.stWk (je_name 3)) (JE.stWk (je_ix G.hu (JE.stWk (je_name 0)) (JE.stWk (je_op (F := dSub) op_sub op2_sub (JE.stWk (je_name 2)) (JE.stWk je_int)))))))))))) (jss_one (js_raise G (hr.mono (by omega)) T.e_BadDays (je_name 2))) jss_nil))) (jss_one (js_if (jt_not (jt_tru (JE.stWk (je_call ((fn_is_within T).mono (by omega)) hr G.pa (ja_cons (je_name 1) (ja_cons je_int (ja_cons (je_gintE T.g_MOST_TURN) ja_nil))))))) (jss_one (js_raise G (hr.mono (by omega)) T.e_BadTurn (je_name 1))) jss_nil))))
theorem fn_check_days (T : Tx K mg) : Fn P w K mg base 6 "check_days" 2 c_check_days := fn_of' (k := 5) T.t_check_days sc_check_days fun f cdv A outer s H E hr G => d_check_days T hr G
theorem d_away (T : Tx K mg) {f : Addr} {cdv : Value} {A : Around} {outer : List PySem.Env} {s : Shared} {H : Hp} {E : XK} (hr : Room 3 (A.deeper (envOfC "away" (defScope s_away) s.heap.objs.size f cdv))) (G : Gx (Xf P w K mg base n_away "away" (defScope s_away) f cdv A outer s H E) E) : JSs (Xf P w K mg base n_away "away" (defScope s_away) f cdv A outer s H E) E (defBody s_away) sm_away :=
  (jss_cons (js_own 2 (je_lst ja_nil) G.nd) (jss_cons (js_for G (gown_tup (gowns_cons (gown_name 3) (gowns_cons (gown_name 4) gowns_nil))) (ji_enum T.b_enumerate (je_name 0)) (jg_tup G.calm (jgs_cons (jg_name 3 G.nd) (jgs_cons (jg_name 4 G.nd) jgs_nil))) (jss_one (js_append 2 (je_b1 (F := dLen) cr_len op1_len T.b_len (by decide +kernel) (JE.frWk (je_lc (own := [("back", 5)]) (gf := (gN 5)) (cf := (tst (e2 dGt (eName 5) (eName 4)))) (ef := (eName 5)) G.calm G.nd (JI.weak (ji_seq (je_slice (F := dSl) sl_all slop_all (JE.stWk (je_name 1)) jp_n (jp_s (je_op (F := dAdd) op_adds op2_add (JE.stWk (je_name 3)) (JE.stWk je_int)))))) (blkOk_by (by kernel_rfl)) (fun _ _ _ _ _ => (jg_name 5 (by exact G.nd))) (fun _ _ _ _ _ => (jts_one (jt_cmp (F := dGt) op_gt op2_cmp (JE.stWk (je_name 5)) (JE.stWk (je_name 4))))) (fun _ _ _ _ _ => (je_name 5)))))))) (jss_frz 2 (jss_one (js_ret (je_name 2))))))
theorem fn_away (T : Tx K mg) : Fn P w K mg base 4 "away" 2 c_away := fn_of' (k := 3) T.t_away sc_away fun f cdv A outer s H E hr G => d_away T hr G
theorem d_told_away (T : Tx K mg) {f : Addr} {cdv : Value} {A : Around} {outer : List PySem.Env} {s : Shared} {H : Hp} {E : XK} (hr : Room 4 (A.deeper (envOfC "told_away" (defScope s_told_away) s.heap.objs.size f cdv))) (G : Gx (Xf P w K mg base n_told_away "told_away" (defScope s_told_away) f cdv A outer s H E) E) : JSs (Xf P w K mg base n_told_away "told_away" (defScope s_told_away) f cdv A outer s H E) E (defBody s_told_away) sm_told_away :=
  (jss_one (js_ret (je_call ((fn_away T).mono (by omega)) hr G.pa (ja_cons (je_name 0) (ja_cons (JE.frSt (je_lc (own := [("day", 2)]) (gf := (gN 2)) (cf := bYes) (ef := (e2 dAdd (eName 2) (eName 1))) G.calm G.nd (JI.weak (ji_seq (je_name 0))) (blkOk_by (by kernel_rfl)) (fun _ _ _ _ _ => (jg_name 2 (by exact G.nd))) (fun _ _ _ _ _ => jts_nil) (fun _ _ _ _ _ => (je_op (F := dAdd) op_adds op2_add (JE.stWk (je_name 2)) (JE.stWk (je_name 1)))))) ja_nil)))))
theorem fn_told_away (T : Tx K mg) : Fn P w K mg base 5 "told_away" 2 c_told_away := fn_of' (k := 4) T.t_told_away sc_told_away fun f cdv A outer s H E hr G => d_told_away T hr G
theorem d_spares_needed (T : Tx K mg) {f : Addr} {cdv : Value} {A : Around} {outer : List PySem.Env} {s : Shared} {H : Hp} {E : XK} (hr : Room 6 (A.deeper (envOfC "spares_needed" (defScope s_spares_needed) s.heap.objs.size f cdv))) (G : Gx (Xf P w K mg base n_spares_needed "spares_needed" (defScope s_spares_needed) f cdv A outer s H E) E) : JSs (Xf P w K mg base n_spares_needed "spares_needed" (defScope s_spares_needed) f cdv A outer s H E) E (defBody s_spares_needed) sm_spares_needed :=
  (jss_cons (js_expr (JE.stWk (je_call ((fn_check_days T).mono (by omega)) hr G.pa (ja_cons (je_name 0) (ja_cons (je_name 1) ja_nil))))) (jss_one (js_ret (je_maxZ (zD := (.int 0)) G.hu G.calm T.b_max (JE.stWk (je_call ((fn_told_away T).mono (by omega)) hr G.pa (ja_cons (je_name 0) (ja_cons (je_name 1) ja_nil)))) pe_int (fun _ _ => .int _)))))
theorem fn_spares_needed (T : Tx K mg) : Fn P w K mg base 7 "spares_needed" 2 c_spares_needed := fn_of' (k := 6) T.t_spares_needed sc_spares_needed fun f cdv A outer s H E hr G => d_spares_needed T hr G
theorem d_first_without (T : Tx K mg) {f : Addr} {cdv : Value} {A : Around} {outer : List PySem.Env} {s : Shared} {H : Hp} {E : XK} (hr : Room 6 (A.deeper (envOfC "first_without" (defScope s_first_without) s.heap.objs.size f cdv))) (G : Gx (Xf P w K mg base n_first_without "first_without" (defScope s_first_without) f cdv A outer s H E) E) : JSs (Xf P w K mg base n_first_without "first_without" (defScope s_first_without) f cdv A outer s H E) E (defBody s_first_without) sm_first_without :=
  (jss_cons (js_expr (JE.stWk (je_call ((fn_check_days T).mono (by omega)) hr G.pa (ja_cons (je_name 0) (ja_cons (je_name 1) ja_nil))))) (jss_cons (js_if (jt_not (jt_tru (JE.stWk (je_call ((fn_is_within T).mono (by omega)) hr G.pa (ja_cons (je_name 2) (ja_cons je_int (ja_cons (je_gintE T.g_MOST_DAYS) ja_nil))))))) (jss_one (js_raise G (hr.mono (by omega)) T.e_BadSpares (je_name 2))) jss_nil) (jss_cons (js_for G (gown_tup (gowns_cons (gown_name 3) (gowns_cons (gown_name 4) gowns_nil))) (ji_enum T.b_enumerate (je_call ((fn_told_away T).mono (by omega)) hr G.pa (ja_cons (je_name 0) (ja_cons (je_name 1) ja_nil)))) (jg_tup G.calm (jgs_cons (jg_name 3 G.nd) (jgs_cons (jg_name 4 G.nd) jgs_nil))) (jss_one (js_if (jt_cmp (F := dGt) op_gt op2_cmp (JE.stWk (je_name 4)) (JE.stWk (je_name 2))) (jss_one (js_ret (je_name 3))) jss_nil))) (jss_one (js_ret je_non)))))
theorem fn_first_without (T : Tx K mg) : Fn P w K mg base 7 "first_without" 3 c_first_without := fn_of' (k := 6) T.t_first_without sc_first_without fun f cdv A outer s H E hr G => d_first_without T hr G
theorem d_busy_days (T : Tx K mg) {f : Addr} {cdv : Value} {A : Around} {outer : List PySem.Env} {s : Shared} {H : Hp} {E : XK} (hr : Room 6 (A.deeper (envOfC "busy_days" (defScope s_busy_days) s.heap.objs.size f cdv))) (G : Gx (Xf P w K mg base n_busy_days "busy_days" (defScope s_busy_days) f cdv A outer s H E) E) : JSs (Xf P w K mg base n_busy_days "busy_days" (defScope s_busy_days) f cdv A outer s H E) E (defBody s_busy_days) sm_busy_days :=
  (jss_cons (js_expr (JE.stWk (je_call ((fn_check_days T).mono (by omega)) hr G.pa (ja_cons (je_name 0) (ja_cons (je_name 1) ja_nil))))) (jss_cons (js_setLc 2 (own := [("day", 4)]) (gf := (gN 4)) (cf := bYes) (ef := (eTup (aCons (e1 dNeg (e1 dLen (eLc [5] (gN 5) (tst (e3 dLe dLt (eName 4) (eName 5) (e2 dAdd (eName 4) (eName 1)))) (eName 5) (iSeq (eName 0))))) (aCons (eName 4) aNil)))) G.calm G.nd (JI.weak (ji_seq (je_name 0))) (blkOk_by (by kernel_rfl)) (fun _ _ _ _ _ => (jg_name 4 (by exact G.nd))) (fun _ _ _ _ _ => jts_nil) (fun _ _ _ _ _ => (je_tup (ja_cons (je_un (F := dNeg) un_neg op1_neg (JE.stWk (je_b1 (F := dLen) cr_len op1_len T.b_len (by decide +kernel) (JE.frWk (je_lc (own := [("other", 5)]) (gf := (gN 5)) (cf := (tst (e3 dLe dLt (eName 4) (eName 5) (e2 dAdd (eName 4) (eName 1))))) (ef := (eName 5)) (by exact G.calm) (by exact G.nd) (JI.weak (ji_seq (je_name 0))) (blkOk_by (by kernel_rfl)) (fun _ _ _ _ _ => (jg_name 5 (by exact G.nd))) (fun _ _ _ _ _ => (jts_one (jt_chain (F := dLe) (F' := dLt) op_le op_lt op2_cmp op2_cmp (JE.stWk (je_name 4)) (JE.stWk (je_name 5)) (JE.stWk (je_op (F := dAdd) op_adds op2_add (JE.stWk (je_name 4)) (JE.stWk (je_name 1))))))) (fun _ _ _ _ _ => (je_name 5))))))) (ja_cons (je_name 4) ja_nil))))) (jss_cons (js_if (jt_not (jt_tru (JE.stWk (je_name 2)))) (jss_one (js_ret je_non)) jss_nil) (jss_cons (js_set 3 (je_ix G.hu (JE.stWk (je_min G.hu G.calm T.b_min (JE.stWk (je_name 2)))) (JE.stWk je_int)) G.nd) (jss_one (js_ret (je_tup (ja_cons (je_name 3) (ja_cons (je_op (F := dSub) op_sub op2_sub (JE.stWk (je_op (F := dAdd) op_adds op2_add (JE.stWk (je_name 3)) (JE.stWk (je_name 1)))) (JE.stWk je_int)) ja_nil)))))))))
theorem fn_busy_days (T : Tx K mg) : Fn P w K mg base 7 "busy_days" 2 c_busy_days := fn_of' (k := 6) T.t_busy_days sc_busy_days fun f cdv A outer s H E hr G => d_busy_days T hr G
theorem d_told_backs (T : Tx K mg) {f : Addr} {cdv : Value} {A : Around} {outer : List PySem.Env} {s : Shared} {H : Hp} {E : XK} (hr : Room 3 (A.deeper (envOfC "told_backs" (defScope s_told_backs) s.heap.objs.size f cdv))) (G : Gx (Xf P w K mg base n_told_backs "told_backs" (defScope s_told_backs) f cdv A outer s H E) E) : JSs (Xf P w K mg base n_told_backs "told_backs" (defScope s_told_backs) f cdv A outer s H E) E (defBody s_told_backs) sm_told_backs :=
  (jss_cons (js_ownLc 3 (own := [("_", 7)]) (gf := (gN 7)) (cf := bYes) (ef := (eC (.int 0))) G.calm G.nd (JI.weak (ji_range1 T.b_range (ja_cons (je_name 2) ja_nil))) (blkOk_by (by kernel_rfl)) (fun _ _ _ _ _ => (jg_name 7 (by exact G.nd))) (fun _ _ _ _ _ => jts_nil) (fun _ _ _ _ _ => je_int)) (jss_cons (js_own 4 (je_lst ja_nil) G.nd) (jss_cons (js_for G (gown_name 5) (ji_seq (je_name 0)) (jg_name 5 G.nd) (jss_cons (js_set 6 (je_b2 (F := dMax2) (call_max2 rfl) op2_max2 T.b_max (by decide +kernel) (JE.stWk (je_name 5)) (JE.stWk (je_min G.hu G.calm T.b_min (je_own 3)))) G.nd) (jss_cons (js_put 3 G.hu (JE.stWk (je_lm (F := dIndex) PySem.F.slot_list_index PySem.F.type_list_index (mt_indexD (by have := G.hu; omega)) op2_index (je_own 3) (JE.stWk (je_min G.hu G.calm T.b_min (je_own 3))))) (je_op (F := dAdd) op_adds op2_add (JE.stWk (je_name 6)) (JE.stWk (je_name 1)))) (jss_one (js_append 4 (je_op (F := dAdd) op_adds op2_add (JE.stWk (je_name 6)) (JE.stWk (je_name 1)))))))) (jss_frz 4 (jss_one (js_ret (je_name 4)))))))
theorem fn_told_backs (T : Tx K mg) : Fn P w K mg base 4 "told_backs" 3 c_told_backs := fn_of' (k := 3) T.t_told_backs sc_told_backs fun f cdv A outer s H E hr G => d_told_backs T hr G
theorem d_check_places (T : Tx K mg) {f : Addr} {cdv : Value} {A : Around} {outer : List PySem.Env} {s : Shared} {H : Hp} {E : XK} (hr : Room 5 (A.deeper (envOfC "check_places" (defScope s_check_places) s.heap.objs.size f cdv))) (G : Gx (Xf P w K mg base n_check_places "check_places" (defScope s_check_places) f cdv A outer s H E) E) : JSs (Xf P w K mg base n_check_places "check_places" (defScope s_check_places) f cdv A outer s H E) E (defBody s_check_places) sm_check_places :=
  (jss_one (js_if (jt_not (jt_tru (JE.stWk (je_call ((fn_is_within T).mono (by omega)) hr G.pa (ja_cons (je_name 0) (ja_cons je_int (ja_cons (je_gintE T.g_MOST_PLACES) ja_nil))))))) (jss_one (js_raise G (hr.mono (by omega)) T.e_BadPlaces (je_name 0))) jss_nil))
theorem fn_check_places (T : Tx K mg) : Fn P w K mg base 6 "check_places" 1 c_check_places := fn_of' (k := 5) T.t_check_places sc_check_places fun f cdv A outer s H E hr G => d_check_places T hr G
theorem d_with_shop (T : Tx K mg) {f : Addr} {cdv : Value} {A : Around} {outer : List PySem.Env} {s : Shared} {H : Hp} {E : XK} (hr : Room 6 (A.deeper (envOfC "with_shop" (defScope s_with_shop) s.heap.objs.size f cdv))) (G : Gx (Xf P w K mg base n_with_shop "with_shop" (defScope s_with_shop) f cdv A outer s H E) E) : JSs (Xf P w K mg base n_with_shop "with_shop" (defScope s_with_shop) f cdv A outer s H E) E (defBody s_with_shop) sm_with_shop :=
  (jss_cons (js_expr (JE.stWk (je_call ((fn_check_days T).mono (by omega)) hr G.pa (ja_cons (je_name 0) (ja_cons (je_name 1) ja_nil))))) (jss_cons (js_expr (JE.stWk (je_call ((fn_check_places T).mono (by omega)) hr G.pa (ja_cons (je_name 2) ja_nil)))) (jss_one (js_ret (je_call ((fn_told_backs T).mono (by omega)) hr G.pa (ja_cons (je_name 0) (ja_cons (je_name 1) (ja_cons (je_name 2) ja_nil))))))))
theorem fn_with_shop (T : Tx K mg) : Fn P w K mg base 7 "with_shop" 3 c_with_shop := fn_of' (k := 6) T.t_with_shop sc_with_shop fun f cdv A outer s H E hr G => d_with_shop T hr G
theorem d_shop_spares (T : Tx K mg) {f : Addr} {cdv : Value} {A : Around} {outer : List PySem.Env} {s : Shared} {H : Hp} {E : XK} (hr : Room 6 (A.deeper (envOfC "shop_spares" (defScope s_shop_spares) s.heap.objs.size f cdv))) (G : Gx (Xf P w K mg base n_shop_spares "shop_spares" (defScope s_shop_spares) f cdv A outer s H E) E) : JSs (Xf P w K mg base n_shop_spares "shop_spares" (defScope s_shop_spares) f cdv A outer s H E) E (defBody s_shop_spares) sm_shop_spares :=
  (jss_cons (js_expr (JE.stWk (je_call ((fn_check_days T).mono (by omega)) hr G.pa (ja_cons (je_name 0) (ja_cons (je_name 1) ja_nil))))) (jss_cons (js_expr (JE.stWk (je_call ((fn_check_places T).mono (by omega)) hr G.pa (ja_cons (je_name 2) ja_nil)))) (jss_one (js_ret (je_maxZ (zD := (.int 0)) G.hu G.calm T.b_max (JE.stWk (je_call ((fn_away T).mono (by omega)) hr G.pa (ja_cons (je_name 0) (ja_cons (je_call ((fn_told_backs T).mono (by omega)) hr G.pa (ja_cons (je_name 0) (ja_cons (je_name 1) (ja_cons (je_name 2) ja_nil)))) ja_nil)))) pe_int (fun _ _ => .int _))))))
theorem fn_shop_spares (T : Tx K mg) : Fn P w K mg base 7 "shop_spares" 3 c_shop_spares := fn_of' (k := 6) T.t_shop_spares sc_shop_spares fun f cdv A outer s H E hr G => d_shop_spares T hr G
theorem fn_law_taken (T : Tx K mg) : Fn P w K mg base 4 "_law_taken" 2 sTaken := taken_fn (k := 3) T.t__law_taken sc_law_taken fun f cdv A outer s H E => by
  refine pss_cons ?_ (pss_cons ?_ (pss_cons ?_ (pss_cons ?_ (pss_cons ?_ (pss_cons ?_ (pss_one ?_))))))
  · exact (ps_if (pt_cmpR op_gt (pe_ix ix_list (pv 0) pe_int (fun _ _ => rfl)) pe_int (nomark _)) (pss_cons (ps_set (i := 2) sc_law_taken.nd rfl (Or.inl rfl) (pe_op op_mod (pe_callTy call_int1 (by rfl) T.b_int (by decide +kernel) (pa_cons (pe_ix ix_list (pv 0) pe_int (fun _ _ => rfl)) pa_nil)) (pv 1))) (pss_cons (ps_asg (pe_op op_fdiv (pe_ix ix_list (pv 0) pe_int (fun _ _ => rfl)) (pv 1)) (pg_sub (pv 0) pe_int set_list)) (pss_one (ps_ret (pv 2))))) pss_nil)
  · exact (ps_asg (pe_op op_add (pe_ix ix_list (pv 0) pe_int (fun _ _ => rfl)) pe_int) (pg_sub (pv 0) pe_int set_list))
  · exact (ps_if (pt_cmpR op_gt (pe_ix ix_list (pv 0) pe_int (fun _ _ => rfl)) (pe_callB call_len (by rfl) T.b_len PySem.boot_len (pa_cons (pe_ix ix_list (pv 0) pe_int (fun _ _ => rfl)) pa_nil)) (nomark _)) (pss_cons (ps_asg (pe_op op_mod (pe_callTy call_int1 (by rfl) T.b_int (by decide +kernel) (pa_cons (pe_op op_add (pe_op op_mul (pe_ix ix_list (pv 0) pe_int (fun _ _ => rfl)) pe_int) pe_int) pa_nil)) pe_int) (pg_sub (pv 0) pe_int set_list)) (pss_one (ps_ret (pe_op op_mod (pe_callTy call_int1 (by rfl) T.b_int (by decide +kernel) (pa_cons (pe_op op_fdiv (pe_ix ix_list (pv 0) pe_int (fun _ _ => rfl)) pe_int) pa_nil)) (pv 1))))) pss_nil)
  · exact (ps_set (i := 3) sc_law_taken.nd rfl (Or.inl rfl) (pe_ix ix_list (pe_ix ix_list (pv 0) pe_int (fun _ _ => rfl)) (pe_op op_sub (pe_ix ix_list (pv 0) pe_int (fun _ _ => rfl)) pe_int) (fun _ _ => rfl)))
  · exact (ps_asg (pe_op op_mod (pe_callTy call_int1 (by rfl) T.b_int (by decide +kernel) (pa_cons (pe_op op_add (pe_op op_add (pe_op op_mul (pe_ix ix_list (pv 0) pe_int (fun _ _ => rfl)) pe_int) (pv 3)) pe_int) pa_nil)) pe_int) (pg_sub (pv 0) pe_int set_list))
  · exact (ps_if (pt_cmpR op_ge (pv 3) (pe_op op_pow pe_int pe_int) (nomark _)) (pss_one (ps_asg (pe_op op_fdiv (pv 3) (pv 1)) (pg_sub (pv 0) pe_int set_list))) pss_nil)
  · exact (ps_ret (pe_op op_mod (pe_callTy call_int1 (by rfl) T.b_int (by decide +kernel) (pa_cons (pv 3) pa_nil)) (pv 1)))
theorem d_law_pick (T : Tx K mg) {f : Addr} {cdv : Value} {A : Around} {outer : List PySem.Env} {s : Shared} {H : Hp} {E : XK} (hr : Room 4 (A.deeper (envOfC "_law_pick" (defScope s_law_pick) s.heap.objs.size f cdv))) (G : Gx (Xf P w K mg base n_law_pick "_law_pick" (defScope s_law_pick) f cdv A outer s H E) E) : JSs (Xf P w K mg base n_law_pick "_law_pick" (defScope s_law_pick) f cdv A outer s H E) E (defBody s_law_pick) sm_law_pick :=
  (jss_one (js_ret (je_ix G.hu (JE.stWk (je_name 1)) (JE.stWk (je_call ((fn_law_taken T).mono (by omega)) hr G.pa (ja_cons (je_name 0) (ja_cons (je_b1 (F := dLen) cr_len op1_len T.b_len (by decide +kernel) (JE.stWk (je_name 1))) ja_nil)))))))
theorem fn_law_pick (T : Tx K mg) : Fn P w K mg base 5 "_law_pick" 2 c_law_pick := fn_of' (k := 4) T.t__law_pick sc_law_pick fun f cdv A outer s H E hr G => d_law_pick T hr G
theorem d_law_alike (T : Tx K mg) {k : Nat} {rec : List D → M D} {f : Addr} {cdv : Value} {A : Around} {outer : List PySem.Env} {s : Shared} {H : Hp} {E : XK} (hr : Room (k + 4) (A.deeper (envOfC "_law_alike" (defScope s_law_alike) s.heap.objs.size f cdv))) (Rec : Fn P w K mg base (k + 4) "_law_alike" 2 rec) (G : Gx (Xf P w K mg base n_law_alike "_law_alike" (defScope s_law_alike) f cdv A outer s H E) E) : JSs (Xf P w K mg base n_law_alike "_law_alike" (defScope s_law_alike) f cdv A outer s H E) E (defBody s_law_alike) (sm_law_alike rec) :=
  (jss_cons (js_if (jt_tru (JE.stWk (je_isi2 (T := "tuple") (U := "list") (by decide +kernel) (by decide +kernel) (by decide) (by decide) T.b_isinstance T.b_tuple T.b_list (JE.stWk (je_name 1))))) (jss_cons (js_if (JW.jt (jw_or (jt_not (jt_tru (JE.stWk (je_isi2 (T := "tuple") (U := "list") (by decide +kernel) (by decide +kernel) (by decide) (by decide) T.b_isinstance T.b_tuple T.b_list (JE.stWk (je_name 0)))))) (jw_or1 (jt_cmp (F := dNe) (op_nes G.hu) op2_ne (JE.stWk (je_isi (T := "list") (by decide +kernel) (by decide) T.b_isinstance T.b_list (JE.stWk (je_name 0)))) (JE.stWk (je_isi (T := "list") (by decide +kernel) (by decide) T.b_isinstance T.b_list (JE.stWk (je_name 1)))))))) (jss_one (js_ret je_bl)) jss_nil) (jss_cons (js_if (jt_cmp (F := dNe) (op_nes G.hu) op2_ne (JE.stWk (je_b1 (F := dLen) cr_len op1_len T.b_len (by decide +kernel) (JE.stWk (je_name 0)))) (JE.stWk (je_b1 (F := dLen) cr_len op1_len T.b_len (by decide +kernel) (JE.stWk (je_name 1))))) (jss_one (js_ret je_bl)) jss_nil) (jss_one (js_ret (je_cmp (F := dEq) (op_eqs G.hu) op2_eq (JE.frWk (je_lc (own := [("k", 2)]) (gf := (gN 2)) (cf := (bNot (tru (eCall rec (aCons (e2 dIx (eName 0) (eName 2)) (aCons (e2 dIx (eName 1) (eName 2)) aNil)))))) (ef := (eName 2)) G.calm G.nd (JI.weak (ji_range1 T.b_range (ja_cons (je_b1 (F := dLen) cr_len op1_len T.b_len (by decide +kernel) (JE.stWk (je_name 1))) ja_nil))) (blkOk_by (by kernel_rfl)) (fun _ _ _ _ _ => (jg_name 2 (by exact G.nd))) (fun _ _ _ _ _ => (jts_one (jt_not (jt_tru (JE.stWk (je_call Rec hr pass_no (ja_cons (je_ix (by exact G.hu) (JE.stWk (je_name 0)) (JE.stWk (je_name 2))) (ja_cons (je_ix (by exact G.hu) (JE.stWk (je_name 1)) (JE.stWk (je_name 2))) ja_nil)))))))) (fun _ _ _ _ _ => (je_name 2)))) (JE.frWk (je_lst ja_nil))))))) jss_nil) (jss_cons (js_if (jt_tru (JE.stWk (je_isi (T := "dict") (by decide +kernel) (by decide) T.b_isinstance T.b_dict (JE.stWk (je_name 1))))) jss_never jss_nil) (jss_cons (js_if (JW.jt (jw_or (jt_cmp (F := dIsN) op_isN op2_isN (JE.stWk (je_name 1)) (JE.stWk je_non)) (jw_or1 (jt_tru (JE.stWk (je_isi (T := "str") (by decide +kernel) (by decide) T.b_isinstance T.b_str (JE.stWk (je_name 1)))))))) (jss_one (js_ret (je_and (je_cmp (F := dEq) (op_eqs G.hu) op2_eq (JE.stWk (je_name 0)) (JE.stWk (je_name 1))) (je_one (je_cmp (F := dEq) (op_eqs G.hu) op2_eq (JE.stWk (je_isi (T := "str") (by decide +kernel) (by decide) T.b_isinstance T.b_str (JE.stWk (je_name 0)))) (JE.stWk (je_isi (T := "str") (by decide +kernel) (by decide) T.b_isinstance T.b_str (JE.stWk (je_name 1))))))))) jss_nil) (jss_one (js_ret (je_and (je_isi (T := "int") (by decide +kernel) (by decide) T.b_isinstance T.b_int (JE.stWk (je_name 0))) (je_and (je_cmp (F := dEq) (op_eqs G.hu) op2_eq (JE.stWk (je_isi (T := "bool") (by decide +kernel) (by decide) T.b_isinstance T.b_bool (JE.stWk (je_name 0)))) (JE.stWk (je_isi (T := "bool") (by decide +kernel) (by decide) T.b_isinstance T.b_bool (JE.stWk (je_name 1))))) (je_one (je_cmp (F := dEq) (op_eqs G.hu) op2_eq (JE.stWk (je_name 0)) (JE.stWk (je_name 1)))))))))))
theorem fn_law_alike (T : Tx K mg) : ∀ n, Fn P w K mg base (4 + n) "_law_alike" 2 (c_law_alike n)
  | 0 => (fn_of' (k := 3) T.t__law_alike sc_law_alike fun f cdv A outer s H E hr G => jss_never).mono (by omega)
  | n + 1 => by
    have := fn_of' (k := n + 4) (sm := sm_law_alike (c_law_alike n)) T.t__law_alike sc_law_alike fun f cdv A outer s H E hr G => d_law_alike T hr (by have := fn_law_alike T n; rw [Nat.add_comm] at this; exact this) G
    rw [show 4 + (n + 1) = n + 4 + 1 by omega]
    exact this
theorem d_law_first (T : Tx K mg) {f : Addr} {cdv : Value} {A : Around} {outer : List PySem.Env} {s : Shared} {H : Hp} {E : XK} (hr : Room 3 (A.deeper (envOfC "_law_first" (defScope s_law_first) s.heap.objs.size f cdv))) (G : Gx (Xf P w K mg base n_law_first "_law_first" (defScope s_law_first) f cdv A outer s H E) E) : JSs (Xf P w K mg base n_law_first "_law_first" (defScope s_law_first) f cdv A outer s H E) E (defBody s_law_first) sm_law_first :=
  (jss_cons (js_par 3 4 (ks := [false, true]) G.calm G.nd (jam_st (je_name 2) (jam_own (je_lst ja_nil) jam_nil))) (jss_cons (js_for G (gown_tup (gowns_cons (gown_name 5) (gowns_cons (gown_name 6) gowns_nil))) (ji_enum T.b_enumerate (je_name 0)) (jg_tup G.calm (jgs_cons (jg_name 5 G.nd) (jgs_cons (jg_name 6 G.nd) jgs_nil))) (jss_cons (js_setLc 7 (own := [("back", 8)]) (gf := (gN 8)) (cf := (tst (e2 dLe (eName 8) (eName 6)))) (ef := (eName 8)) G.calm G.nd (ji_seqW (je_own 4)) (blkOk_by (by kernel_rfl)) (fun _ _ _ _ _ => (jg_name 8 (by exact G.nd))) (fun _ _ _ _ _ => (jts_one (jt_cmp (F := dLe) op_le op2_cmp (JE.stWk (je_name 8)) (JE.stWk (je_name 6))))) (fun _ _ _ _ _ => (je_name 8))) (jss_cons (js_ownLc 4 (own := [("back", 8)]) (gf := (gN 8)) (cf := (tst (e2 dGt (eName 8) (eName 6)))) (ef := (eName 8)) G.calm G.nd (ji_seqW (je_own 4)) (blkOk_by (by kernel_rfl)) (fun _ _ _ _ _ => (jg_name 8 (by exact G.nd))) (fun _ _ _ _ _ => (jts_one (jt_cmp (F := dGt) op_gt op2_cmp (JE.stWk (je_name 8)) (JE.stWk (je_name 6))))) (fun _ _ _ _ _ => (je_name 8))) (jss_cons (js_set 3 (je_op (F := dAdd) op_adds op2_add (JE.stWk (je_name 3)) (JE.stWk (je_b1 (F := dLen) cr_len op1_len T.b_len (by decide +kernel) (JE.stWk (je_name 7))))) G.nd) (jss_cons (js_if (jt_cmp (F := dEq) (op_eqs G.hu) op2_eq (JE.stWk (je_name 3)) (JE.stWk je_int)) (jss_one (js_ret (je_name 5))) jss_nil) (jss_cons (js_set 3 (je_op (F := dSub) op_sub op2_sub (JE.stWk (je_name 3)) (JE.stWk je_int)) G.nd) (jss_one (js_append 4 (je_ix G.hu (JE.stWk (je_name 1)) (JE.stWk (je_name 5))))))))))) (jss_one (js_ret (je_un (F := dNeg) un_neg op1_neg (JE.stWk je_int))))))
theorem fn_law_first (T : Tx K mg) : Fn P w K mg base 4 "_law_first" 3 c_law_first := fn_of' (k := 3) T.t__law_first sc_law_first fun f cdv A outer s H E hr G => d_law_first T hr G
theorem d_law_shop (T : Tx K mg) {f : Addr} {cdv : Value} {A : Around} {outer : List PySem.Env} {s : Shared} {H : Hp} {E : XK} (hr : Room 3 (A.deeper (envOfC "_law_shop" (defScope s_law_shop) s.heap.objs.size f cdv))) (G : Gx (Xf P w K mg base n_law_shop "_law_shop" (defScope s_law_shop) f cdv A outer s H E) E) : JSs (Xf P w K mg base n_law_shop "_law_shop" (defScope s_law_shop) f cdv A outer s H E) E (defBody s_law_shop) sm_law_shop :=
  (jss_cons (js_multi (ks := [true, false, true, false]) G.calm G.nd (jam_own (je_lst ja_nil) (jam_st (JE.frSt (je_lst ja_nil)) (jam_own (je_lst ja_nil) (jam_st je_int jam_nil)))) (nt_cons 3 (nt_cons 4 (nt_cons 5 (nt_cons 6 NT.nil))))) (jss_cons (js_for G (gown_name 7) (ji_range1 T.b_range (ja_cons (je_op (F := dAdd) op_adds op2_add (JE.stWk (je_op (F := dAdd) op_adds op2_add (JE.stWk (je_op (F := dMul) op_muls op2_mul (JE.stWk (je_b1 (F := dLen) cr_len op1_len T.b_len (by decide +kernel) (JE.stWk (je_name 0)))) (JE.stWk (je_op (F := dAdd) op_adds op2_add (JE.stWk (je_name 1)) (JE.stWk je_int))))) (JE.stWk (je_max G.hu G.calm T.b_max (JE.stWk (je_op (F := dAdd) op_adds op2_add (JE.stWk (je_name 0)) (JE.frWk (je_lst (ja_cons je_int ja_nil))))))))) (JE.stWk je_int)) ja_nil)) (jg_name 7 G.nd) (jss_cons (js_ownLc 3 (own := [("one", 9)]) (gf := (gN 9)) (cf := (tst (e2 dGt (e2 dIx (eName 9) (eC (.int 1))) (eName 6)))) (ef := (eName 9)) G.calm G.nd (ji_seqW (je_own 3)) (blkOk_by (by kernel_rfl)) (fun _ _ _ _ _ => (jg_name 9 (by exact G.nd))) (fun _ _ _ _ _ => (jts_one (jt_cmp (F := dGt) op_gt op2_cmp (JE.stWk (je_ix (by exact G.hu) (JE.stWk (je_name 9)) (JE.stWk je_int))) (JE.stWk (je_name 6))))) (fun _ _ _ _ _ => (je_name 9))) (jss_cons (js_set 4 (je_op (F := dAdd) op_adds op2_add (JE.stWk (je_name 4)) (JE.frWk (je_lc (own := [("at", 10)]) (gf := (gN 10)) (cf := (tst (e2 dEq (e2 dIx (eName 0) (eName 10)) (eName 6)))) (ef := (eName 10)) G.calm G.nd (JI.weak (ji_range1 T.b_range (ja_cons (je_b1 (F := dLen) cr_len op1_len T.b_len (by decide +kernel) (JE.stWk (je_name 0))) ja_nil))) (blkOk_by (by kernel_rfl)) (fun _ _ _ _ _ => (jg_name 10 (by exact G.nd))) (fun _ _ _ _ _ => (jts_one (jt_cmp (F := dEq) (op_eqs (by exact G.hu)) op2_eq (JE.stWk (je_ix (by exact G.hu) (JE.stWk (je_name 0)) (JE.stWk (je_name 10)))) (JE.stWk (je_name 6))))) (fun _ _ _ _ _ => (je_name 10))))) G.nd) (jss_cons (js_for G (gown_name 8) (ji_range1 T.b_range (ja_cons (je_name 2) ja_nil)) (jg_name 8 G.nd) (jss_one (js_if (JW.jt (jw_and (jt_cmp (F := dLt) op_lt op2_cmp (JE.stWk (je_b1 (F := dLen) cr_len op1_len T.b_len (by decide +kernel) (je_own 3))) (JE.stWk (je_name 2))) (jw_and1 (jt_cmp (F := dNe) (op_nes G.hu) op2_ne (JE.stWk (je_name 4)) (JE.frWk (je_lst ja_nil)))))) (jss_cons (js_append 3 (je_tup (ja_cons (je_ix G.hu (JE.stWk (je_name 4)) (JE.stWk je_int)) (ja_cons (je_op (F := dAdd) op_adds op2_add (JE.stWk (je_name 6)) (JE.stWk (je_name 1))) ja_nil)))) (jss_cons (js_append 5 (je_op (F := dAdd) op_adds op2_add (JE.stWk (je_name 6)) (JE.stWk (je_name 1)))) (jss_one (js_set 4 (je_slice (F := dSl) sl_all slop_all (JE.stWk (je_name 4)) (jp_s je_int) jp_n) G.nd)))) jss_nil))) (jss_one (js_set 6 (je_op (F := dAdd) op_adds op2_add (JE.stWk (je_name 6)) (JE.stWk je_int)) G.nd)))))) (jss_frz 5 (jss_one (js_ret (je_name 5))))))
theorem fn_law_shop (T : Tx K mg) : Fn P w K mg base 4 "_law_shop" 3 c_law_shop := fn_of' (k := 3) T.t__law_shop sc_law_shop fun f cdv A outer s H E hr G => d_law_shop T hr G
theorem tbl_spares_needed_busy_days_with_shop_shop_spares_ok (T : Tx K mg) : ∀ t ∈ tbl_spares_needed_busy_days_with_shop_shop_spares, Fn P w K mg base 7 t.1 t.2.1 t.2.2 := fun t ht => by
  simp only [tbl_spares_needed_busy_days_with_shop_shop_spares, List.mem_cons, List.not_mem_nil, or_false] at ht
  rcases ht with rfl | rfl | rfl | rfl
  · exact (fn_spares_needed T).mono (by omega)
  · exact (fn_busy_days T).mono (by omega)
  · exact (fn_with_shop T).mono (by omega)
  · exact (fn_shop_spares T).mono (by omega)
theorem d_law (T : Tx K mg) {f : Addr} {cdv : Value} {A : Around} {outer : List PySem.Env} {s : Shared} {H : Hp} {E : XK} (hr : Room 12 (A.deeper (envOfC "law" (defScope s_law) s.heap.objs.size f cdv))) (hq : A.guards = some []) (G : Gx (Xf P w K mg base n_law "law" (defScope s_law) f cdv A outer s H E) E) (LG : LamG (Xf P w K mg base n_law "law" (defScope s_law) f cdv A outer s H E)) : JSs (Xf P w K mg base n_law "law" (defScope s_law) f cdv A outer s H E) E ((defBody s_law).drop 1) sm_law :=
  (jss_cons (js_asg (gown_tup (gowns_cons (gown_name 2) (gowns_cons (gown_name 3) gowns_nil))) (je_if (jt_cmp (F := dEq) (op_eqs G.hu) op2_eq (JE.stWk (je_call ((fn_law_taken T).mono (by omega)) hr G.pa (ja_cons (je_name 1) (ja_cons je_int ja_nil)))) (JE.stWk je_int)) (je_tup (ja_cons je_int (ja_cons je_int ja_nil))) (je_tup (ja_cons je_int (ja_cons je_int ja_nil)))) (jg_tup G.calm (jgs_cons (jg_name 2 G.nd) (jgs_cons (jg_name 3 G.nd) jgs_nil)))) (jss_cons (js_set 4 (JE.frSt (je_b1 (F := dSorted false) (cr_sorted G.hu) op1_sorted T.b_sorted (by decide +kernel) (JE.frWk (je_lc (own := [("k", 19)]) (gf := (gN 19)) (cf := bYes) (ef := (eCall sTaken (aCons (eName 1) (aCons (eName 3) aNil)))) G.calm G.nd (JI.weak (ji_range1 T.b_range (ja_cons (je_call ((fn_law_taken T).mono (by omega)) hr G.pa (ja_cons (je_name 1) (ja_cons (je_op (F := dAdd) op_adds op2_add (JE.stWk (je_name 2)) (JE.stWk je_int)) ja_nil))) ja_nil))) (blkOk_by (by kernel_rfl)) (fun _ _ _ _ _ => (jg_name 19 (by exact G.nd))) (fun _ _ _ _ _ => jts_nil) (fun _ _ _ _ _ => (je_call ((fn_law_taken T).mono (by omega)) hr pass_no (ja_cons (je_name 1) (ja_cons (je_name 3) ja_nil)))))))) G.nd) (jss_cons (js_multi (ks := [false, false]) G.calm G.nd (jam_st (je_op (F := dAdd) op_adds op2_add (JE.stWk je_int) (JE.stWk (je_call ((fn_law_taken T).mono (by omega)) hr G.pa (ja_cons (je_name 1) (ja_cons je_int ja_nil))))) (jam_st (je_op (F := dAdd) op_adds op2_add (JE.stWk je_int) (JE.stWk (je_call ((fn_law_taken T).mono (by omega)) hr G.pa (ja_cons (je_name 1) (ja_cons je_int ja_nil))))) jam_nil)) (nt_cons 5 (nt_cons 6 NT.nil))) (jss_cons (js_par 7 8 (ks := [false, false]) G.calm G.nd (jam_st (JE.frSt (je_lc (own := [("day", 14)]) (gf := (gN 14)) (cf := bYes) (ef := (e2 dAdd (eName 14) (eName 5))) G.calm G.nd (JI.weak (ji_seq (je_name 4))) (blkOk_by (by kernel_rfl)) (fun _ _ _ _ _ => (jg_name 14 (by exact G.nd))) (fun _ _ _ _ _ => jts_nil) (fun _ _ _ _ _ => (je_op (F := dAdd) op_adds op2_add (JE.stWk (je_name 14)) (JE.stWk (je_name 5)))))) (jam_st (je_call ((fn_law_shop T).mono (by omega)) hr G.pa (ja_cons (je_name 4) (ja_cons (je_name 5) (ja_cons (je_name 6) ja_nil)))) jam_nil))) (jss_cons (js_if (jt_not (jt_tru (JE.stWk (je_call ((fn_law_alike T 8).mono (by omega)) hr G.pa (ja_cons (je_call ((fn_with_shop T).mono (by omega)) hr G.pa (ja_cons (je_t1 (F := dTuple) call_tuple_of op1_tuple T.b_tuple (by decide +kernel) (JE.stWk (je_name 4))) (ja_cons (je_name 5) (ja_cons (je_name 6) ja_nil)))) (ja_cons (je_name 8) ja_nil)))))) (jss_one (js_ret je_bl)) jss_nil) (jss_cons (js_for G (gown_tup (gowns_cons (gown_name 9) (gowns_cons (gown_name 10) gowns_nil))) (ji_seq (JE.frSt (je_lst (ja_cons (je_tup (ja_cons (je_name 7) (ja_cons (je_call ((fn_spares_needed T).mono (by omega)) hr G.pa (ja_cons (je_t1 (F := dTuple) call_tuple_of op1_tuple T.b_tuple (by decide +kernel) (JE.stWk (je_name 4))) (ja_cons (je_name 5) ja_nil))) ja_nil))) (ja_cons (je_tup (ja_cons (je_name 8) (ja_cons (je_call ((fn_shop_spares T).mono (by omega)) hr G.pa (ja_cons (je_name 4) (ja_cons (je_name 5) (ja_cons (je_name 6) ja_nil)))) ja_nil))) ja_nil))))) (jg_tup G.calm (jgs_cons (jg_name 9 G.nd) (jgs_cons (jg_name 10 G.nd) jgs_nil))) (jss_cons (js_if (JW.jt (jw_or (jt_not (jt_tru (JE.stWk (je_isi (T := "int") (by decide +kernel) (by decide) T.b_isinstance T.b_int (JE.stWk (je_name 10)))))) (jw_or (jt_cmp (F := dNe) (op_nes G.hu) op2_ne (JE.stWk (je_call ((fn_law_first T).mono (by omega)) hr G.pa (ja_cons (je_name 4) (ja_cons (je_name 9) (ja_cons (je_name 10) ja_nil))))) (JE.stWk (je_un (F := dNeg) un_neg op1_neg (JE.stWk je_int)))) (jw_or1 (JW.jt (jw_and (jt_cmp (F := dGt) op_gt op2_cmp (JE.stWk (je_name 10)) (JE.stWk je_int)) (jw_and1 (jt_cmp (F := dLt) op_lt op2_cmp (JE.stWk (je_call ((fn_law_first T).mono (by omega)) hr G.pa (ja_cons (je_name 4) (ja_cons (je_name 9) (ja_cons (je_op (F := dSub) op_sub op2_sub (JE.stWk (je_name 10)) (JE.stWk je_int)) ja_nil))))) (JE.stWk je_int))))))))) (jss_one (js_ret je_bl)) jss_nil) (jss_one (js_if (jt_cmp (F := dNe) (op_nes G.hu) op2_ne (JE.stWk (je_cmp (F := dEq) (op_eqs G.hu) op2_eq (JE.stWk (je_name 10)) (JE.stWk je_int))) (JE.stWk (je_cmp (F := dEq) (op_eqs G.hu) op2_eq (JE.stWk (je_name 4)) (JE.frWk (je_lst ja_nil))))) (jss_one (js_ret je_bl)) jss_nil)))) (jss_cons (js_for G (gown_name 11) (ji_range1 T.b_range (ja_cons (je_op (F := dAdd) op_adds op2_add (JE.stWk (je_b2 (F := dMin2) (call_min2 rfl) op2_min2 T.b_min (by decide +kernel) (JE.stWk (je_b1 (F := dLen) cr_len op1_len T.b_len (by decide +kernel) (JE.stWk (je_name 4)))) (JE.stWk je_int))) (JE.stWk je_int)) ja_nil)) (jg_name 11 G.nd) (jss_cons (js_set 12 (je_call ((fn_law_first T).mono (by omega)) hr G.pa (ja_cons (je_name 4) (ja_cons (je_name 7) (ja_cons (je_name 11) ja_nil)))) G.nd) (jss_one (js_if (jt_not (jt_tru (JE.stWk (je_call ((fn_law_alike T 8).mono (by omega)) hr G.pa (ja_cons (je_call ((fn_first_without T).mono (by omega)) hr G.pa (ja_cons (je_name 4) (ja_cons (je_name 5) (ja_cons (je_name 11) ja_nil)))) (ja_cons (je_if (jt_cmp (F := dGe) op_ge op2_cmp (JE.stWk (je_name 12)) (JE.stWk je_int)) (je_name 12) je_non) ja_nil)))))) (jss_one (js_ret je_bl)) jss_nil)))) (jss_cons (js_set 13 je_non G.nd) (jss_cons (js_for G (gown_name 14) (ji_seq (je_name 4)) (jg_name 14 G.nd) (jss_cons (js_set 15 (je_b1 (F := dLen) cr_len op1_len T.b_len (by decide +kernel) (JE.frWk (je_lc (own := [("other", 20)]) (gf := (gN 20)) (cf := (tst (e3 dLe dLt (eName 14) (eName 20) (e2 dAdd (eName 14) (eName 5))))) (ef := (eName 20)) G.calm G.nd (JI.weak (ji_seq (je_name 4))) (blkOk_by (by kernel_rfl)) (fun _ _ _ _ _ => (jg_name 20 (by exact G.nd))) (fun _ _ _ _ _ => (jts_one (jt_chain (F := dLe) (F' := dLt) op_le op_lt op2_cmp op2_cmp (JE.stWk (je_name 14)) (JE.stWk (je_name 20)) (JE.stWk (je_op (F := dAdd) op_adds op2_add (JE.stWk (je_name 14)) (JE.stWk (je_name 5))))))) (fun _ _ _ _ _ => (je_name 20))))) G.nd) (jss_one (js_if (JW.jt (jw_or (jt_cmp (F := dIsN) op_isN op2_isN (JE.stWk (je_name 13)) (JE.stWk je_non)) (jw_or1 (jt_cmp (F := dGt) op_gt op2_cmp (JE.stWk (je_name 15)) (JE.stWk (je_ix G.hu (JE.stWk (je_name 13)) (JE.stWk je_int))))))) (jss_one (js_set 13 (je_tup (ja_cons (je_name 15) (ja_cons (je_name 14) ja_nil))) G.nd)) jss_nil)))) (jss_cons (js_if (jt_not (jt_tru (JE.stWk (je_call ((fn_law_alike T 8).mono (by omega)) hr G.pa (ja_cons (je_call ((fn_busy_days T).mono (by omega)) hr G.pa (ja_cons (je_name 4) (ja_cons (je_name 5) ja_nil))) (ja_cons (je_if (jt_cmp (F := dIsN) op_isN op2_isN (JE.stWk (je_name 13)) (JE.stWk je_non)) je_non (je_tup (ja_cons (je_ix G.hu (JE.stWk (je_name 13)) (JE.stWk je_int)) (ja_cons (je_op (F := dSub) op_sub op2_sub (JE.stWk (je_op (F := dAdd) op_adds op2_add (JE.stWk (je_ix G.hu (JE.stWk (je_name 13)) (JE.stWk je_int))) (JE.stWk (je_name 5)))) (JE.stWk je_int)) ja_nil)))) ja_nil)))))) (jss_one (js_ret je_bl)) jss_nil) (jss_cons (js_if (JW.jt (jw_and (jt_cmp (F := dNotN) op_notN op2_notN (JE.stWk (je_name 13)) (JE.stWk je_non)) (jw_and1 (jt_cmp (F := dNe) (op_nes G.hu) op2_ne (JE.stWk (je_call ((fn_spares_needed T).mono (by omega)) hr G.pa (ja_cons (je_name 4) (ja_cons (je_name 5) ja_nil)))) (JE.stWk (je_ix G.hu (JE.stWk (je_name 13)) (JE.stWk je_int))))))) (jss_one (js_ret je_bl)) jss_nil) (jss_cons (js_set 16 (je_call ((fn_law_pick T).mono (by omega)) hr G.pa (ja_cons (je_name 1) (ja_cons (JE.frSt (je_lst (ja_cons je_int (ja_cons je_int (ja_cons je_non (ja_cons je_bl ja_nil)))))) ja_nil))) G.nd) (jss_cons (js_set 17 (je_op (F := dAdd) op_adds op2_add (JE.stWk (je_slice (F := dSl) sl_all slop_all (JE.stWk (je_name 4)) jp_n (jp_s je_int))) (JE.frWk (je_lst (ja_cons (je_call ((fn_law_pick T).mono (by omega)) hr G.pa (ja_cons (je_name 1) (ja_cons (je_op (F := dAdd) op_adds op2_add (JE.frWk (je_lst (ja_cons (je_un (F := dNeg) un_neg op1_neg (JE.stWk je_int)) (ja_cons je_int (ja_cons je_non (ja_cons je_bl ja_nil)))))) (JE.stWk (je_if (jt_cmp (F := dNe) (op_nes G.hu) op2_ne (JE.stWk (je_name 4)) (JE.frWk (je_lst ja_nil))) (JE.frSt (je_lst (ja_cons (je_op (F := dSub) op_sub op2_sub (JE.stWk (je_ix G.hu (JE.stWk (je_slice (F := dSl) sl_all slop_all (JE.stWk (je_name 4)) jp_n (jp_s je_int))) (JE.stWk (je_un (F := dNeg) un_neg op1_neg (JE.stWk je_int))))) (JE.stWk je_int)) ja_nil))) (JE.frSt (je_lst ja_nil))))) ja_nil))) ja_nil)))) G.nd) (jss_cons (js_for G (gown_name 18) (ji_seq (JE.frSt (je_lst (ja_cons (je_gfnE T.t_spares_needed) (ja_cons (je_gfnE T.t_busy_days) ja_nil))))) (jg_name 18 G.nd) (jss_cons (js_if (jt_cmp (F := dNe) (op_nes G.hu) op2_ne (JE.stWk (je_b1 (F := dRepr) (cr_repr hq G.hu) op1_repr T.b_repr (by decide +kernel) (JE.stWk (je_ref (rcs := rcs) LG T.refu hr (LamX.lamS_by (by kernel_rfl)) G.nd (fun A2 outer2 s2 H2 E2 f2 c2 hr2 G2 => (JE.stWk (je_callL 18 (tbl := tbl_spares_needed_busy_days_with_shop_shop_spares) (fun t ht => ((tbl_spares_needed_busy_days_with_shop_shop_spares_ok T t ht).mono (by omega))) hr2 G2.pa (ja_cons (je_name 4) (ja_cons (je_name 16) ja_nil))))))))) (JE.stWk (je_b1 (F := dRepr) (cr_repr hq G.hu) op1_repr T.b_repr (by decide +kernel) (JE.stWk (je_tup (ja_cons je_str (ja_cons (je_name 16) ja_nil))))))) (jss_one (js_ret je_bl)) jss_nil) (jss_one (js_if (jt_cmp (F := dNe) (op_nes G.hu) op2_ne (JE.stWk (je_ref (rcs := rcs) LG T.refu hr (LamX.lamS_by (by kernel_rfl)) G.nd (fun A2 outer2 s2 H2 E2 f2 c2 hr2 G2 => (JE.stWk (je_callL 18 (tbl := tbl_spares_needed_busy_days_with_shop_shop_spares) (fun t ht => ((tbl_spares_needed_busy_days_with_shop_shop_spares_ok T t ht).mono (by omega))) hr2 G2.pa (ja_cons (je_name 17) (ja_cons (je_name 16) ja_nil))))))) (JE.stWk (je_tup (ja_cons je_str (ja_cons (je_op (F := dSub) op_sub op2_sub (JE.stWk (je_b1 (F := dLen) cr_len op1_len T.b_len (by decide +kernel) (JE.stWk (je_name 17)))) (JE.stWk je_int)) ja_nil))))) (jss_one (js_ret je_bl)) jss_nil)))) (jss_cons (js_for G (gown_name 18) (ji_seq (JE.frSt (je_lst (ja_cons (je_gfnE T.t_with_shop) (ja_cons (je_gfnE T.t_shop_spares) ja_nil))))) (jg_name 18 G.nd) (jss_cons (js_if (jt_cmp (F := dNe) (op_nes G.hu) op2_ne (JE.stWk (je_ref (rcs := rcs) LG T.refu hr (LamX.lamS_by (by kernel_rfl)) G.nd (fun A2 outer2 s2 H2 E2 f2 c2 hr2 G2 => (JE.stWk (je_callL 18 (tbl := tbl_spares_needed_busy_days_with_shop_shop_spares) (fun t ht => ((tbl_spares_needed_busy_days_with_shop_shop_spares_ok T t ht).mono (by omega))) hr2 G2.pa (ja_cons (je_call ((fn_law_pick T).mono (by omega)) hr2 G2.pa (ja_cons (je_name 1) (ja_cons (JE.frSt (je_lst (ja_cons je_non (ja_cons (je_op (F := dMul) op_muls op2_mul (JE.frWk (je_lst (ja_cons je_int ja_nil))) (JE.stWk je_int)) (ja_cons je_int ja_nil))))) ja_nil))) (ja_cons (je_name 16) (ja_cons je_non ja_nil)))))))) (JE.stWk (je_tup (ja_cons je_str (ja_cons (je_un (F := dNeg) un_neg op1_neg (JE.stWk je_int)) ja_nil))))) (jss_one (js_ret je_bl)) jss_nil) (jss_cons (js_if (jt_cmp (F := dNe) (op_nes G.hu) op2_ne (JE.stWk (je_b1 (F := dRepr) (cr_repr hq G.hu) op1_repr T.b_repr (by decide +kernel) (JE.stWk (je_ref (rcs := rcs) LG T.refu hr (LamX.lamS_by (by kernel_rfl)) G.nd (fun A2 outer2 s2 H2 E2 f2 c2 hr2 G2 => (JE.stWk (je_callL 18 (tbl := tbl_spares_needed_busy_days_with_shop_shop_spares) (fun t ht => ((tbl_spares_needed_busy_days_with_shop_shop_spares_ok T t ht).mono (by omega))) hr2 G2.pa (ja_cons (je_name 4) (ja_cons (je_name 16) (ja_cons je_non ja_nil)))))))))) (JE.stWk (je_b1 (F := dRepr) (cr_repr hq G.hu) op1_repr T.b_repr (by decide +kernel) (JE.stWk (je_tup (ja_cons je_str (ja_cons (je_name 16) ja_nil))))))) (jss_one (js_ret je_bl)) jss_nil) (jss_one (js_if (jt_cmp (F := dNe) (op_nes G.hu) op2_ne (JE.stWk (je_ref (rcs := rcs) LG T.refu hr (LamX.lamS_by (by kernel_rfl)) G.nd (fun A2 outer2 s2 H2 E2 f2 c2 hr2 G2 => (JE.stWk (je_callL 18 (tbl := tbl_spares_needed_busy_days_with_shop_shop_spares) (fun t ht => ((tbl_spares_needed_busy_days_with_shop_shop_spares_ok T t ht).mono (by omega))) hr2 G2.pa (ja_cons (je_name 4) (ja_cons je_int (ja_cons je_int ja_nil)))))))) (JE.stWk (je_tup (ja_cons je_str (ja_cons je_int ja_nil))))) (jss_one (js_ret je_bl)) jss_nil))))) (jss_one (js_ret (je_cmp (F := dEq) (op_eqs G.hu) op2_eq (JE.stWk (je_ref (rcs := rcs) LG T.refu hr (LamX.lamS_by (by kernel_rfl)) G.nd (fun A2 outer2 s2 H2 E2 f2 c2 hr2 G2 => (JE.stWk (je_call ((fn_first_without T).mono (by omega)) hr2 G2.pa (ja_cons (je_name 4) (ja_cons (je_name 5) (ja_cons (je_un (F := dNeg) un_neg op1_neg (JE.stWk je_int)) ja_nil)))))))) (JE.stWk (je_tup (ja_cons je_str (ja_cons (je_un (F := dNeg) un_neg op1_neg (JE.stWk je_int)) ja_nil))))))))))))))))))))))
end
end K19

set_option maxRecDepth 100000
set_option maxHeartbeats 0
namespace K19
open PySem PySem.Spec PyProof.Rows L2 Y
def dd (x : Str) (st : Stmt) : He.DefD := ⟨(x, none), x, x, defArgs st, defBody st, defScope st, [], []⟩
def dIni : He.DefD := ⟨("SpareError", some "__init__"), "__init__", "SpareError.__init__", defArgs s_ini, defBody s_ini, defScope s_ini, [.non], []⟩
def hfn : List He.DefD := [dd "is_integer" s_is_integer, dd "is_within" s_is_within, dd "is_row" s_is_row, dd "check_days" s_check_days, dd "away" s_away, dd "told_away" s_told_away, dd "spares_needed" s_spares_needed, dd "first_without" s_first_without, dd "busy_days" s_busy_days, dd "told_backs" s_told_backs, dd "check_places" s_check_places, dd "with_shop" s_with_shop, dd "shop_spares" s_shop_spares, dd "_law_taken" s_law_taken, dd "_law_pick" s_law_pick, dd "_law_alike" s_law_alike, dd "_law_first" s_law_first, dd "_law_shop" s_law_shop, dd "law" s_law, dd "_law_refused" s_law_refused, dIni]
def hfa : List He.Fa := [.glo "is_integer", .glo "is_within", .glo "is_row", .glo "check_days", .glo "away", .glo "told_away", .glo "spares_needed", .glo "first_without", .glo "busy_days", .glo "told_backs", .glo "check_places", .glo "with_shop", .glo "shop_spares", .glo "_law_taken", .glo "_law_pick", .glo "_law_alike", .glo "_law_first", .glo "_law_shop", .glo "law", .glo "_law_refused", .free "bool", .free "dict", .free "enumerate", .free "int", .free "isinstance", .free "len", .free "list", .free "max", .free "min", .free "range", .free "repr", .free "sorted", .free "str", .free "tuple", .int "MOST_DAY" (10000), .int "MOST_DAYS" (60), .int "MOST_PLACES" (20), .int "MOST_TURN" (1000)]
def herrs : List Str := ["BadDays", "BadPlaces", "BadSpares", "BadTurn"]
abbrev R : PySem.W.OpenRow := PySem.W.OpenLaw.row PySem.Challenge.rw_oldspares_k19_whole_repairs
abbrev hk : PySem.W.Hook := He.hookX 5 hfa hfn [] [("law", none)] (errsB herrs)
def ob (s : PySem.W.SharedT) : He.AlX := He.obsX 5 hfa hfn [] [("law", none)] (errsB herrs) (HandSHeadRun.getT s)
theorem ob_eq (s : PySem.W.SharedT) : ob s = hk.obs s.abs := He.obsX_eq (HandSHeadRun.getT_eq s)
def loose0 : List Str := ["is_integer", "is_within", "is_row", "SpareError", "BadSpares", "BadDays", "BadTurn", "BadPlaces", "MOST_DAYS", "MOST_DAY", "MOST_TURN", "MOST_PLACES", "check_days", "away", "told_away", "spares_needed", "first_without", "busy_days", "told_backs", "check_places", "with_shop", "shop_spares", "_law_taken", "_law_pick", "_law_alike", "_law_first", "_law_shop", "_law_refused"]
def loose : List Str := loose0
theorem run (w : World) : HandSHeadRun.RunEq R (PySem.W.view R.prog [32]) hk ob 2000 loose w := by
  intro os
  kernel_rfl
section
variable {w : World} {K : PySem.W.Frag} {mg : Str → Option Value} {h : Heap}
abbrev Sx (w : World) (h : Heap) (K : PySem.W.Frag) : Prop := He.SaysX hfa hfn [] [("law", none)] (errsB herrs) w h K
theorem ft_is_integer (X : K.In h) (G : h.Ns mainGlobals mg) (c : Sx w h K) : FnT K mg "is_integer" s_is_integer ["thing"] := by
  obtain ⟨fd, F⟩ := c.t.d.def_ 0 (d := dd "is_integer" s_is_integer) rfl
  exact fnT_of F (He.glo_ok X G (c.t.d.fact 0 (f := .glo "is_integer") rfl)) fun _ _ _ _ _ _ us hl => match us, hl with | [_], _ => rfl
theorem ft_is_within (X : K.In h) (G : h.Ns mainGlobals mg) (c : Sx w h K) : FnT K mg "is_within" s_is_within ["thing", "least", "most"] := by
  obtain ⟨fd, F⟩ := c.t.d.def_ 1 (d := dd "is_within" s_is_within) rfl
  exact fnT_of F (He.glo_ok X G (c.t.d.fact 1 (f := .glo "is_within") rfl)) fun _ _ _ _ _ _ us hl => match us, hl with | [_, _, _], _ => rfl
theorem ft_is_row (X : K.In h) (G : h.Ns mainGlobals mg) (c : Sx w h K) : FnT K mg "is_row" s_is_row ["thing"] := by
  obtain ⟨fd, F⟩ := c.t.d.def_ 2 (d := dd "is_row" s_is_row) rfl
  exact fnT_of F (He.glo_ok X G (c.t.d.fact 2 (f := .glo "is_row") rfl)) fun _ _ _ _ _ _ us hl => match us, hl with | [_], _ => rfl
theorem ft_check_days (X : K.In h) (G : h.Ns mainGlobals mg) (c : Sx w h K) : FnT K mg "check_days" s_check_days ["days", "turn"] := by
  obtain ⟨fd, F⟩ := c.t.d.def_ 3 (d := dd "check_days" s_check_days) rfl
  exact fnT_of F (He.glo_ok X G (c.t.d.fact 3 (f := .glo "check_days") rfl)) fun _ _ _ _ _ _ us hl => match us, hl with | [_, _], _ => rfl
theorem ft_away (X : K.In h) (G : h.Ns mainGlobals mg) (c : Sx w h K) : FnT K mg "away" s_away ["days", "backs"] := by
  obtain ⟨fd, F⟩ := c.t.d.def_ 4 (d := dd "away" s_away) rfl
  exact fnT_of F (He.glo_ok X G (c.t.d.fact 4 (f := .glo "away") rfl)) fun _ _ _ _ _ _ us hl => match us, hl with | [_, _], _ => rfl
theorem ft_told_away (X : K.In h) (G : h.Ns mainGlobals mg) (c : Sx w h K) : FnT K mg "told_away" s_told_away ["days", "turn"] := by
  obtain ⟨fd, F⟩ := c.t.d.def_ 5 (d := dd "told_away" s_told_away) rfl
  exact fnT_of F (He.glo_ok X G (c.t.d.fact 5 (f := .glo "told_away") rfl)) fun _ _ _ _ _ _ us hl => match us, hl with | [_, _], _ => rfl
theorem ft_spares_needed (X : K.In h) (G : h.Ns mainGlobals mg) (c : Sx w h K) : FnT K mg "spares_needed" s_spares_needed ["days", "turn"] := by
  obtain ⟨fd, F⟩ := c.t.d.def_ 6 (d := dd "spares_needed" s_spares_needed) rfl
  exact fnT_of F (He.glo_ok X G (c.t.d.fact 6 (f := .glo "spares_needed") rfl)) fun _ _ _ _ _ _ us hl => match us, hl with | [_, _], _ => rfl
theorem ft_first_without (X : K.In h) (G : h.Ns mainGlobals mg) (c : Sx w h K) : FnT K mg "first_without" s_first_without ["days", "turn", "spares"] := by
  obtain ⟨fd, F⟩ := c.t.d.def_ 7 (d := dd "first_without" s_first_without) rfl
  exact fnT_of F (He.glo_ok X G (c.t.d.fact 7 (f := .glo "first_without") rfl)) fun _ _ _ _ _ _ us hl => match us, hl with | [_, _, _], _ => rfl
theorem ft_busy_days (X : K.In h) (G : h.Ns mainGlobals mg) (c : Sx w h K) : FnT K mg "busy_days" s_busy_days ["days", "turn"] := by
  obtain ⟨fd, F⟩ := c.t.d.def_ 8 (d := dd "busy_days" s_busy_days) rfl
  exact fnT_of F (He.glo_ok X G (c.t.d.fact 8 (f := .glo "busy_days") rfl)) fun _ _ _ _ _ _ us hl => match us, hl with | [_, _], _ => rfl
theorem ft_told_backs (X : K.In h) (G : h.Ns mainGlobals mg) (c : Sx w h K) : FnT K mg "told_backs" s_told_backs ["days", "turn", "places"] := by
  obtain ⟨fd, F⟩ := c.t.d.def_ 9 (d := dd "told_backs" s_told_backs) rfl
  exact fnT_of F (He.glo_ok X G (c.t.d.fact 9 (f := .glo "told_backs") rfl)) fun _ _ _ _ _ _ us hl => match us, hl with | [_, _, _], _ => rfl
theorem ft_check_places (X : K.In h) (G : h.Ns mainGlobals mg) (c : Sx w h K) : FnT K mg "check_places" s_check_places ["places"] := by
  obtain ⟨fd, F⟩ := c.t.d.def_ 10 (d := dd "check_places" s_check_places) rfl
  exact fnT_of F (He.glo_ok X G (c.t.d.fact 10 (f := .glo "check_places") rfl)) fun _ _ _ _ _ _ us hl => match us, hl with | [_], _ => rfl
theorem ft_with_shop (X : K.In h) (G : h.Ns mainGlobals mg) (c : Sx w h K) : FnT K mg "with_shop" s_with_shop ["days", "turn", "places"] := by
  obtain ⟨fd, F⟩ := c.t.d.def_ 11 (d := dd "with_shop" s_with_shop) rfl
  exact fnT_of F (He.glo_ok X G (c.t.d.fact 11 (f := .glo "with_shop") rfl)) fun _ _ _ _ _ _ us hl => match us, hl with | [_, _, _], _ => rfl
theorem ft_shop_spares (X : K.In h) (G : h.Ns mainGlobals mg) (c : Sx w h K) : FnT K mg "shop_spares" s_shop_spares ["days", "turn", "places"] := by
  obtain ⟨fd, F⟩ := c.t.d.def_ 12 (d := dd "shop_spares" s_shop_spares) rfl
  exact fnT_of F (He.glo_ok X G (c.t.d.fact 12 (f := .glo "shop_spares") rfl)) fun _ _ _ _ _ _ us hl => match us, hl with | [_, _, _], _ => rfl
theorem ft_law_taken (X : K.In h) (G : h.Ns mainGlobals mg) (c : Sx w h K) : FnT K mg "_law_taken" s_law_taken ["row", "many"] := by
  obtain ⟨fd, F⟩ := c.t.d.def_ 13 (d := dd "_law_taken" s_law_taken) rfl
  exact fnT_of F (He.glo_ok X G (c.t.d.fact 13 (f := .glo "_law_taken") rfl)) fun _ _ _ _ _ _ us hl => match us, hl with | [_, _], _ => rfl
theorem ft_law_pick (X : K.In h) (G : h.Ns mainGlobals mg) (c : Sx w h K) : FnT K mg "_law_pick" s_law_pick ["row", "some"] := by
  obtain ⟨fd, F⟩ := c.t.d.def_ 14 (d := dd "_law_pick" s_law_pick) rfl
  exact fnT_of F (He.glo_ok X G (c.t.d.fact 14 (f := .glo "_law_pick") rfl)) fun _ _ _ _ _ _ us hl => match us, hl with | [_, _], _ => rfl
theorem ft_law_alike (X : K.In h) (G : h.Ns mainGlobals mg) (c : Sx w h K) : FnT K mg "_law_alike" s_law_alike ["found", "due"] := by
  obtain ⟨fd, F⟩ := c.t.d.def_ 15 (d := dd "_law_alike" s_law_alike) rfl
  exact fnT_of F (He.glo_ok X G (c.t.d.fact 15 (f := .glo "_law_alike") rfl)) fun _ _ _ _ _ _ us hl => match us, hl with | [_, _], _ => rfl
theorem ft_law_first (X : K.In h) (G : h.Ns mainGlobals mg) (c : Sx w h K) : FnT K mg "_law_first" s_law_first ["days", "backs", "spares"] := by
  obtain ⟨fd, F⟩ := c.t.d.def_ 16 (d := dd "_law_first" s_law_first) rfl
  exact fnT_of F (He.glo_ok X G (c.t.d.fact 16 (f := .glo "_law_first") rfl)) fun _ _ _ _ _ _ us hl => match us, hl with | [_, _, _], _ => rfl
theorem ft_law_shop (X : K.In h) (G : h.Ns mainGlobals mg) (c : Sx w h K) : FnT K mg "_law_shop" s_law_shop ["days", "turn", "places"] := by
  obtain ⟨fd, F⟩ := c.t.d.def_ 17 (d := dd "_law_shop" s_law_shop) rfl
  exact fnT_of F (He.glo_ok X G (c.t.d.fact 17 (f := .glo "_law_shop") rfl)) fun _ _ _ _ _ _ us hl => match us, hl with | [_, _, _], _ => rfl
theorem iniD (X : K.In h) (G : h.Ns mainGlobals mg) (c : Sx w h K) : ∃ fd, IniD K s_ini fd := by
  obtain ⟨fd, F⟩ := c.t.d.def_ 20 (d := dIni) rfl
  have F2 : FunD K "__init__" "SpareError.__init__" (defArgs s_ini) (defBody s_ini) (defScope s_ini) [.non] [] (iAd K) fd := F
  exact ⟨fd, F2, ⟨rfl, rfl, rfl, by decide +kernel, rfl, by decide +kernel, by decide +kernel⟩, ⟨_, _, _, _, rfl⟩, .inl rfl, .inl rfl, ini_binds F2 fun T kV doc pm an cdv ct us its h1 h2 => match us, h1, its, h2 with | [_, _], _, [_], _ => ⟨_, rfl, rfl⟩⟩
theorem errE (X : K.In h) (G : h.Ns mainGlobals mg) (c : Sx w h K) {x : Str} (hx : x ∈ herrs) : Ec K mg x := by
  obtain ⟨fd, I⟩ := iniD X G c
  obtain ⟨h1, h2, h3⟩ := errsB_ok c.more
  exact ec_of X G I h3 (h1 x hx)
theorem hrefu (X : K.In h) (G : h.Ns mainGlobals mg) (c : Sx w h K) : Refu K mg "_law_refused" "ask" rcs := by
  obtain ⟨fd, F⟩ := c.t.d.def_ 19 (d := dd "_law_refused" s_law_refused) rfl
  obtain ⟨h1, h2, h3⟩ := errsB_ok c.more
  have m0 : ("BadDays" : Str) ∈ herrs := by decide
  have g0 := PySem.W.mg_of X G (h1 _ m0).ns
  have m1 : ("BadPlaces" : Str) ∈ herrs := by decide
  have g1 := PySem.W.mg_of X G (h1 _ m1).ns
  have m2 : ("BadSpares" : Str) ∈ herrs := by decide
  have g2 := PySem.W.mg_of X G (h1 _ m2).ns
  have m3 : ("BadTurn" : Str) ∈ herrs := by decide
  have g3 := PySem.W.mg_of X G (h1 _ m3).ns
  refine ⟨⟨_, s_law_refused, fd, [(He.ga K "BadDays", (⟨"BadDays", "days", false⟩ : RC)), (He.ga K "BadPlaces", (⟨"BadPlaces", "places", false⟩ : RC)), (He.ga K "BadSpares", (⟨"BadSpares", "spares", false⟩ : RC)), (He.ga K "BadTurn", (⟨"BadTurn", "turn", false⟩ : RC))], He.glo_ok X G (c.t.d.fact 19 (f := .glo "_law_refused") rfl), fun_of F, F.bindsN fun _ _ _ _ _ _ us hl => match us, hl with | [_], _ => rfl, ⟨rfl, rfl, rfl, by decide +kernel, rfl, by decide +kernel, by decide +kernel⟩, .inl rfl, ⟨rfl, ?_, ?_, ?_⟩, fun Y cdg q eK eM => ?_⟩⟩
  · intro p hp
    simp only [List.mem_cons, List.not_mem_nil, or_false] at hp
    rcases hp with rfl | rfl | rfl | rfl
    · exact g0
    · exact g1
    · exact g2
    · exact g3
  · intro p hp
    simp only [List.mem_cons, List.not_mem_nil, or_false] at hp
    rcases hp with rfl | rfl | rfl | rfl
    · exact (by decide : ("days" : Str).length ≤ sizeLine)
    · exact (by decide : ("places" : Str).length ≤ sizeLine)
    · exact (by decide : ("spares" : Str).length ≤ sizeLine)
    · exact (by decide : ("turn" : Str).length ≤ sizeLine)
  · intro p hp r hr
    simp only [List.mem_cons, List.not_mem_nil, or_false] at hp hr
    rcases hp with rfl | rfl | rfl | rfl
    · rcases hr with rfl | rfl | rfl | rfl
      · exact h2 _ m0 _ m0
      · exact h2 _ m0 _ m1
      · exact h2 _ m0 _ m2
      · exact h2 _ m0 _ m3
    · rcases hr with rfl | rfl | rfl | rfl
      · exact h2 _ m1 _ m0
      · exact h2 _ m1 _ m1
      · exact h2 _ m1 _ m2
      · exact h2 _ m1 _ m3
    · rcases hr with rfl | rfl | rfl | rfl
      · exact h2 _ m2 _ m0
      · exact h2 _ m2 _ m1
      · exact h2 _ m2 _ m2
      · exact h2 _ m2 _ m3
    · rcases hr with rfl | rfl | rfl | rfl
      · exact h2 _ m3 _ m0
      · exact h2 _ m3 _ m1
      · exact h2 _ m3 _ m2
      · exact h2 _ m3 _ m3
  · subst eK eM
    refine ref_gives (X := Y) (Ng := ["ask", "e"]) (sg := defScope s_law_refused) (by decide) rfl rfl rfl fun s H => ?_
    refine hda_one (by exact g0) (by exact (h1 _ m0).xf) (by exact (h1 _ m0).noV) (by rfl) (by exact .inl rfl) (by rfl) (by rfl) ?_
    refine hda_one (by exact g1) (by exact (h1 _ m1).xf) (by exact (h1 _ m1).noV) (by rfl) (by exact .inl rfl) (by rfl) (by rfl) ?_
    refine hda_one (by exact g2) (by exact (h1 _ m2).xf) (by exact (h1 _ m2).noV) (by rfl) (by exact .inl rfl) (by rfl) (by rfl) ?_
    refine hda_one (by exact g3) (by exact (h1 _ m3).xf) (by exact (h1 _ m3).noV) (by rfl) (by exact .inl rfl) (by rfl) (by rfl) ?_
    exact .nil
theorem hTx (X : K.In h) (G : h.Ns mainGlobals mg) (c : Sx w h K) : Tx K mg where
  b_bool := He.free_ok X G (c.t.d.fact 20 (f := .free "bool") rfl)
  b_dict := He.free_ok X G (c.t.d.fact 21 (f := .free "dict") rfl)
  b_enumerate := He.free_ok X G (c.t.d.fact 22 (f := .free "enumerate") rfl)
  b_int := He.free_ok X G (c.t.d.fact 23 (f := .free "int") rfl)
  b_isinstance := He.free_ok X G (c.t.d.fact 24 (f := .free "isinstance") rfl)
  b_len := He.free_ok X G (c.t.d.fact 25 (f := .free "len") rfl)
  b_list := He.free_ok X G (c.t.d.fact 26 (f := .free "list") rfl)
  b_max := He.free_ok X G (c.t.d.fact 27 (f := .free "max") rfl)
  b_min := He.free_ok X G (c.t.d.fact 28 (f := .free "min") rfl)
  b_range := He.free_ok X G (c.t.d.fact 29 (f := .free "range") rfl)
  b_repr := He.free_ok X G (c.t.d.fact 30 (f := .free "repr") rfl)
  b_sorted := He.free_ok X G (c.t.d.fact 31 (f := .free "sorted") rfl)
  b_str := He.free_ok X G (c.t.d.fact 32 (f := .free "str") rfl)
  b_tuple := He.free_ok X G (c.t.d.fact 33 (f := .free "tuple") rfl)
  t_is_integer := ft_is_integer X G c
  t_is_within := ft_is_within X G c
  t_is_row := ft_is_row X G c
  t_check_days := ft_check_days X G c
  t_away := ft_away X G c
  t_told_away := ft_told_away X G c
  t_spares_needed := ft_spares_needed X G c
  t_first_without := ft_first_without X G c
  t_busy_days := ft_busy_days X G c
  t_told_backs := ft_told_backs X G c
  t_check_places := ft_check_places X G c
  t_with_shop := ft_with_shop X G c
  t_shop_spares := ft_shop_spares X G c
  t__law_taken := ft_law_taken X G c
  t__law_pick := ft_law_pick X G c
  t__law_alike := ft_law_alike X G c
  t__law_first := ft_law_first X G c
  t__law_shop := ft_law_shop X G c
  g_MOST_DAY := He.int_ok X G (c.t.d.fact 34 (f := .int "MOST_DAY" (10000)) rfl)
  g_MOST_DAYS := He.int_ok X G (c.t.d.fact 35 (f := .int "MOST_DAYS" (60)) rfl)
  g_MOST_PLACES := He.int_ok X G (c.t.d.fact 36 (f := .int "MOST_PLACES" (20)) rfl)
  g_MOST_TURN := He.int_ok X G (c.t.d.fact 37 (f := .int "MOST_TURN" (1000)) rfl)
  e_BadDays := errE X G c (by decide)
  e_BadPlaces := errE X G c (by decide)
  e_BadSpares := errE X G c (by decide)
  e_BadTurn := errE X G c (by decide)
  refu := hrefu X G c
theorem hLaw {fa : Addr} (X : K.In h) (G : h.Ns mainGlobals mg) (c : Sx w h K) (hmg : mg "law" = some (.ref fa)) (hs : Says n_law sm_law) : LawG PySem.Challenge.rw_oldspares_k19_whole_repairs w K 13 63 "script" mg fa h := by
  obtain ⟨fd, F⟩ := c.t.d.def_ 18 (d := dd "law" s_law) rfl
  have e := hmg.symm.trans (He.glo_ok X G (c.t.d.fact 18 (f := .glo "law") rfl))
  cases e
  have FF : Fun K "law" "law" s_law (He.fAd K ("law", none)) fd := fun_of F
  have T := hTx X G c
  have b := FunD.bindsA (ps := ["script"]) F fun _ _ _ _ _ _ us hl => match us, hl with | [_], _ => rfl
  refine ⟨fd, [He.cT K ("law", none)], spLaw K [He.cT K ("law", none)], fun p hp => ?_, fun p hp => ?_, fun p hp => ?_, fun s v => b s [v] rfl, fun H a ns hl ht hS => ⟨a, ns, rfl, hS, ht, fun _ => rfl⟩, fun base _ _ tb => law_fg (seed := 119) FF sc_law (by decide) hs fun cdv A outer s H E ec ga hr G => ⟨_, _, rfl, ps_set (i := 1) sc_law.nd rfl (by first | exact Or.inl rfl | exact Or.inr rfl) (pe_lst (pa_cons (pv 0) (pa_cons pe_int (pa_cons pe_int (pa_cons pe_int pa_nil))))), d_law T hr ga G (lamG_of (d := dIni) (qual := "law") FF rfl ec (tb _ (List.mem_singleton.mpr rfl)))⟩⟩
  · rw [List.mem_singleton.mp hp]; exact c.empty _ (List.mem_singleton.mpr rfl)
  · rw [List.mem_singleton.mp hp]; exact c.out _ (List.mem_singleton.mpr rfl)
  · rw [List.mem_singleton.mp hp]; exact PySem.W.codeHd_of_K X (c.hd _ (List.mem_singleton.mpr rfl))
end
end K19
open PySem PySem.W PySem.Calls PyProof.Rows
theorem K19.holds_of (hs : Y.Says K19.n_law K19.sm_law) : PySem.Challenge.rw_oldspares_k19_whole_repairs.Holds := by
  w_on; o_law
  refine HandSHeadRun.head_any (r := OpenLaw.row PySem.Challenge.rw_oldspares_k19_whole_repairs) (q := view (OpenLaw.row PySem.Challenge.rw_oldspares_k19_whole_repairs).prog [32]) (H := K19.hk) (ob := K19.ob) (M := 2000) (loose := K19.loose) (d := HandSHeadRun.topDef (OpenLaw.row PySem.Challenge.rw_oldspares_k19_whole_repairs).prog 32) (kwd := []) K19.ob_eq
    (by kernel_rfl) (fun s => by kernel_rfl) K19.run (by kernel_rfl) (by kernel_rfl) (by kernel_rfl) (by rfl) (by first | assumption | decide +kernel) (by decide +kernel) ⟨rfl, rfl, rfl, rfl, rfl, by decide +kernel⟩ ?hw ?hc
  case hw => w_witness2
  case hc =>
    refine Y.walk_law (l := PySem.Challenge.rw_oldspares_k19_whole_repairs) (n := 63) (k := 13) (x := "script") rfl (by decide) (by kernel_rfl) ⟨rfl, by decide, by decide⟩ ?F
    intro w mg fa h Z G hmg0
    obtain ⟨K, KX, c⟩ := Z
    have hmg : mg ("law" : PySem.Str) = some (.ref fa) := by
      have e : (HandSHeadRun.topDef (OpenLaw.row PySem.Challenge.rw_oldspares_k19_whole_repairs).prog 32).name = ("law" : PySem.Str) := by kernel_rfl
      rw [← e]
      exact hmg0
    exact ⟨K, KX, K19.hLaw KX G c hmg hs⟩

set_option maxRecDepth 100000
set_option maxHeartbeats 1000000
namespace K19
open PySem PySem.Spec PyProof.Rows L2 Y
open PySem.W (AllAlike Sortable dataLe dataLt)
section
variable {W : List MO} {R : D → List MO → Prop} {E : Exn → List MO → Prop}
theorem is_integer_ap (d : D) (h : d.ty.isSome = true) : c_is_integer [d] W R E = R (.bl d.isInt) W := isInt_ap d h
theorem is_within_ap (d : D) (lo hi : Int) (h : d.ty.isSome = true) : c_is_within [d, .int lo, .int hi] W R E = R (.bl (d.within lo hi)) W := within_ap d lo hi h
theorem is_row_ap (d : D) (h : d.ty.isSome = true) : c_is_row [d] W R E = R (.bl d.isRow) W := isRow_ap d h
theorem dEqB_int' (f : Bool → Bool) (a b : Int) : dEqB f (.int a) (.int b) W R E = R (.bl (f (decide (a = b)))) W := dEqB_int f a b
/-! ### check_days -/
/-- a day that may stand where it stands -/
def dayOk (xs : List D) (i : Nat) (d : D) : Bool := d.within 0 10000 && (decide (i = 0) || (match xs[i - 1]?, d with | some (.int a), .int b => decide (a ≤ b) | _, _ => false))
theorem check_days_ap (L T : D) (xs : List D) (hL : L = .lst xs ∨ L = .tup xs) (hl : xs.length ≤ 60) (ht : ∀ d ∈ xs, d.ty.isSome = true) (hT : T.ty.isSome = true)
    (hb1 : ∀ i d, xs[i]? = some d → dayOk xs i d = false → (∀ j d', j < i → xs[j]? = some d' → dayOk xs j d' = true) → E ⟨"BadDays", [("value", .int (i : Nat))]⟩ W)
    (hb2 : (∀ i d, xs[i]? = some d → dayOk xs i d = true) → T.within 1 1000 = false → E ⟨"BadTurn", [("value", T)]⟩ W)
    (hok : (∀ i d, xs[i]? = some d → dayOk xs i d = true) → T.within 1 1000 = true → R .non W) : c_check_days [L, T] W R E := by
  show sm_check_days [.v L, .v T, .no, .no] W (kS R E)
  unfold sm_check_days
  have tail : (∀ i d, xs[i]? = some d → dayOk xs i d = true) → ∀ a b, (sIf (bNot (tru (eCall c_is_within (aCons (eName 1) (aCons (eC (.int 1)) (aCons (eC (.int 1000)) aNil)))))) (sRaise "BadTurn" (eName 1)) sNil) [.v L, .v T, a, b] W (kS R E) := fun hall a b => by
    simp only [ret_ap, bnd_ap, ask_ap, fail_ap, noE_ap, eName_ap, eOwn_ap, eC_ap, e1_ap, e2_ap, e2g_ap, e3_ap, tst_ap, bAnd_ap, bOr_ap, bNot_ap, bYes_ap, vAnd_ap, vOr_ap, vNot_ap, tru_ap, eIf_ap, aNil_ap, aCons_ap, aStar_ap, eTup_ap, eLst_ap, eTupS_ap, eLstS_ap, eCall_ap, eRef_ap, eIsi_ap, eIsi2_ap, iSeq_ap, iEn_ap, iR1_ap, iR2_ap, iR3_ap, eLc_ap, sNil_ap, sSeq_ap, sFrz_ap, sExpr_ap, sRet_ap, sAsg_ap, sOwn_ap, sIf_ap, sFor_ap, sAug_ap, sApp_ap, sExt_ap, sRaise_ap, gN_ap, gT_ap, gsC_ap, gs0_ap, sq_rt, sq_ex, sq_bk, sq_ct, lp_rt, lp_ex, lp_bk, lp_ct, lp_nx, kS_rt, kS_ex, kS_nx, List.getElem?_cons_zero, List.getElem?_cons_succ, List.set_cons_zero, List.set_cons_succ, Option.bind_some, dLen_lst, dLen_tup, dLen_dct, dLen_str, dAdd_ii, dAdd_ss, dAdd_ll, dAdd_tt, dSub_ii, dMul_ii, dMul_li, dFdiv_ii, dMod_ii, dPow_ii, dNeg_i, dCmp_ii, dSum_l, dAll_l, dAny_l, dAbs_i, dInt_i, dInt_b, dList_l, dList_t, dTuple_l, dTuple_t, dMax2_ii, dMin2_ii, dAddI_ii, dRev_l, dIx_l, dIx_t, dIx_d, orFail_some, orFail_none, tru_non, ty_non, tru_bl, ty_bl, tru_int, ty_int, tru_str, ty_str, tru_lst, ty_lst, tru_tup, ty_tup, tru_dct, ty_dct, its_lst, items_lst, its_tup, items_tup, isL_l, dIsN, dNotN, if_true, if_false, Bool.not_true, Bool.not_false, true_and, and_true, wipeE, isTy_NoneType_bool, isTy_NoneType_int, isTy_NoneType_str, isTy_NoneType_list, isTy_NoneType_tuple, isTy_NoneType_dict, isTy_bool_bool, isTy_bool_int, isTy_bool_str, isTy_bool_list, isTy_bool_tuple, isTy_bool_dict, isTy_int_bool, isTy_int_int, isTy_int_str, isTy_int_list, isTy_int_tuple, isTy_int_dict, isTy_str_bool, isTy_str_int, isTy_str_str, isTy_str_list, isTy_str_tuple, isTy_str_dict, isTy_list_bool, isTy_list_int, isTy_list_str, isTy_list_list, isTy_list_tuple, isTy_list_dict, isTy_tuple_bool, isTy_tuple_int, isTy_tuple_str, isTy_tuple_list, isTy_tuple_tuple, isTy_tuple_dict, isTy_dict_bool, isTy_dict_int, isTy_dict_str, isTy_dict_list, isTy_dict_tuple, isTy_dict_dict, sMulti_ap, giveE, eSl_ap, pN_ap, pS_ap, dSl_l, dSl_t, isN_non, isN_bl, isN_int, isN_str, isN_lst, isN_tup, isN_dct, isN_fn, isN_row, Bool.or_true, Bool.or_false, Bool.true_or, Bool.false_or, reduceCtorEq, eq_self, ↓reduceIte, is_within_ap T 1 1000 hT]
    cases q : T.within 1 1000 with
    | true => simp only [ret_ap, bnd_ap, ask_ap, fail_ap, noE_ap, eName_ap, eOwn_ap, eC_ap, e1_ap, e2_ap, e2g_ap, e3_ap, tst_ap, bAnd_ap, bOr_ap, bNot_ap, bYes_ap, vAnd_ap, vOr_ap, vNot_ap, tru_ap, eIf_ap, aNil_ap, aCons_ap, aStar_ap, eTup_ap, eLst_ap, eTupS_ap, eLstS_ap, eCall_ap, eRef_ap, eIsi_ap, eIsi2_ap, iSeq_ap, iEn_ap, iR1_ap, iR2_ap, iR3_ap, eLc_ap, sNil_ap, sSeq_ap, sFrz_ap, sExpr_ap, sRet_ap, sAsg_ap, sOwn_ap, sIf_ap, sFor_ap, sAug_ap, sApp_ap, sExt_ap, sRaise_ap, gN_ap, gT_ap, gsC_ap, gs0_ap, sq_rt, sq_ex, sq_bk, sq_ct, lp_rt, lp_ex, lp_bk, lp_ct, lp_nx, kS_rt, kS_ex, kS_nx, List.getElem?_cons_zero, List.getElem?_cons_succ, List.set_cons_zero, List.set_cons_succ, Option.bind_some, dLen_lst, dLen_tup, dLen_dct, dLen_str, dAdd_ii, dAdd_ss, dAdd_ll, dAdd_tt, dSub_ii, dMul_ii, dMul_li, dFdiv_ii, dMod_ii, dPow_ii, dNeg_i, dCmp_ii, dSum_l, dAll_l, dAny_l, dAbs_i, dInt_i, dInt_b, dList_l, dList_t, dTuple_l, dTuple_t, dMax2_ii, dMin2_ii, dAddI_ii, dRev_l, dIx_l, dIx_t, dIx_d, orFail_some, orFail_none, tru_non, ty_non, tru_bl, ty_bl, tru_int, ty_int, tru_str, ty_str, tru_lst, ty_lst, tru_tup, ty_tup, tru_dct, ty_dct, its_lst, items_lst, its_tup, items_tup, isL_l, dIsN, dNotN, if_true, if_false, Bool.not_true, Bool.not_false, true_and, and_true, wipeE, isTy_NoneType_bool, isTy_NoneType_int, isTy_NoneType_str, isTy_NoneType_list, isTy_NoneType_tuple, isTy_NoneType_dict, isTy_bool_bool, isTy_bool_int, isTy_bool_str, isTy_bool_list, isTy_bool_tuple, isTy_bool_dict, isTy_int_bool, isTy_int_int, isTy_int_str, isTy_int_list, isTy_int_tuple, isTy_int_dict, isTy_str_bool, isTy_str_int, isTy_str_str, isTy_str_list, isTy_str_tuple, isTy_str_dict, isTy_list_bool, isTy_list_int, isTy_list_str, isTy_list_list, isTy_list_tuple, isTy_list_dict, isTy_tuple_bool, isTy_tuple_int, isTy_tuple_str, isTy_tuple_list, isTy_tuple_tuple, isTy_tuple_dict, isTy_dict_bool, isTy_dict_int, isTy_dict_str, isTy_dict_list, isTy_dict_tuple, isTy_dict_dict, sMulti_ap, giveE, eSl_ap, pN_ap, pS_ap, dSl_l, dSl_t, isN_non, isN_bl, isN_int, isN_str, isN_lst, isN_tup, isN_dct, isN_fn, isN_row, Bool.or_true, Bool.or_false, Bool.true_or, Bool.false_or, reduceCtorEq, eq_self, ↓reduceIte]; exact hok hall q
    | false => simp only [ret_ap, bnd_ap, ask_ap, fail_ap, noE_ap, eName_ap, eOwn_ap, eC_ap, e1_ap, e2_ap, e2g_ap, e3_ap, tst_ap, bAnd_ap, bOr_ap, bNot_ap, bYes_ap, vAnd_ap, vOr_ap, vNot_ap, tru_ap, eIf_ap, aNil_ap, aCons_ap, aStar_ap, eTup_ap, eLst_ap, eTupS_ap, eLstS_ap, eCall_ap, eRef_ap, eIsi_ap, eIsi2_ap, iSeq_ap, iEn_ap, iR1_ap, iR2_ap, iR3_ap, eLc_ap, sNil_ap, sSeq_ap, sFrz_ap, sExpr_ap, sRet_ap, sAsg_ap, sOwn_ap, sIf_ap, sFor_ap, sAug_ap, sApp_ap, sExt_ap, sRaise_ap, gN_ap, gT_ap, gsC_ap, gs0_ap, sq_rt, sq_ex, sq_bk, sq_ct, lp_rt, lp_ex, lp_bk, lp_ct, lp_nx, kS_rt, kS_ex, kS_nx, List.getElem?_cons_zero, List.getElem?_cons_succ, List.set_cons_zero, List.set_cons_succ, Option.bind_some, dLen_lst, dLen_tup, dLen_dct, dLen_str, dAdd_ii, dAdd_ss, dAdd_ll, dAdd_tt, dSub_ii, dMul_ii, dMul_li, dFdiv_ii, dMod_ii, dPow_ii, dNeg_i, dCmp_ii, dSum_l, dAll_l, dAny_l, dAbs_i, dInt_i, dInt_b, dList_l, dList_t, dTuple_l, dTuple_t, dMax2_ii, dMin2_ii, dAddI_ii, dRev_l, dIx_l, dIx_t, dIx_d, orFail_some, orFail_none, tru_non, ty_non, tru_bl, ty_bl, tru_int, ty_int, tru_str, ty_str, tru_lst, ty_lst, tru_tup, ty_tup, tru_dct, ty_dct, its_lst, items_lst, its_tup, items_tup, isL_l, dIsN, dNotN, if_true, if_false, Bool.not_true, Bool.not_false, true_and, and_true, wipeE, isTy_NoneType_bool, isTy_NoneType_int, isTy_NoneType_str, isTy_NoneType_list, isTy_NoneType_tuple, isTy_NoneType_dict, isTy_bool_bool, isTy_bool_int, isTy_bool_str, isTy_bool_list, isTy_bool_tuple, isTy_bool_dict, isTy_int_bool, isTy_int_int, isTy_int_str, isTy_int_list, isTy_int_tuple, isTy_int_dict, isTy_str_bool, isTy_str_int, isTy_str_str, isTy_str_list, isTy_str_tuple, isTy_str_dict, isTy_list_bool, isTy_list_int, isTy_list_str, isTy_list_list, isTy_list_tuple, isTy_list_dict, isTy_tuple_bool, isTy_tuple_int, isTy_tuple_str, isTy_tuple_list, isTy_tuple_tuple, isTy_tuple_dict, isTy_dict_bool, isTy_dict_int, isTy_dict_str, isTy_dict_list, isTy_dict_tuple, isTy_dict_dict, sMulti_ap, giveE, eSl_ap, pN_ap, pS_ap, dSl_l, dSl_t, isN_non, isN_bl, isN_int, isN_str, isN_lst, isN_tup, isN_dct, isN_fn, isN_row, Bool.or_true, Bool.or_false, Bool.true_or, Bool.false_or, reduceCtorEq, eq_self, ↓reduceIte]; exact hb2 hall q
  -- one day is looked at after the ones ahead of it were found whole
  have loop : ∀ (n : Nat) (e : Y.Env), n ≤ xs.length → (∀ j d', j < xs.length - n → xs[j]? = some d' → dayOk xs j d' = true) → (∃ a b, e = [.v L, .v T, a, b]) →
      forM (gT (gsC (gN 2) (gsC (gN 3) gs0))) (sIf (bOr (bNot (tru (eCall c_is_within (aCons (eName 3) (aCons (eC (.int 0)) (aCons (eC (.int 10000)) aNil)))))) (bAnd (tst (e2 dGt (eName 2) (eC (.int 0)))) (tst (e2 dLt (eName 3) (e2 dIx (eName 0) (e2 dSub (eName 2) (eC (.int 1)))))))) (sRaise "BadDays" (eName 2)) sNil) ((enumD xs).drop (xs.length - n)) e W ((kS R E).sq (sIf (bNot (tru (eCall c_is_within (aCons (eName 1) (aCons (eC (.int 1)) (aCons (eC (.int 1000)) aNil)))))) (sRaise "BadTurn" (eName 1)) sNil)) := by
    intro n
    induction n with
    | zero =>
      rintro e _ hj ⟨a, b, rfl⟩
      rw [Nat.sub_zero, List.drop_of_length_le (by rw [enumD_length]; exact Nat.le_refl _), forM_nil, sq_nx]
      exact tail (fun i d hd => hj i d (by obtain ⟨h, _⟩ := List.getElem?_eq_some_iff.mp hd; omega) hd) a b
    | succ n ih =>
      rintro e hn hj ⟨a, b, rfl⟩
      have hi : xs.length - (n + 1) < xs.length := by omega
      generalize hI : xs.length - (n + 1) = i at hi hj
      have e1 : (enumD xs).drop i = .tup [.int (i : Nat), xs[i]] :: (enumD xs).drop (xs.length - n) := by
        rw [List.drop_eq_getElem_cons (by rw [enumD_length]; exact hi)]
        congr 1
        · have := enumD_get xs i
          rw [List.getElem?_eq_getElem (by rw [enumD_length]; exact hi), List.getElem?_eq_getElem hi] at this
          exact Option.some.inj this
        · congr 1
          omega
      rw [e1, forM_cons]
      have hxi : xs[i]? = some xs[i] := List.getElem?_eq_getElem hi
      have hty := ht _ (List.getElem_mem hi)
      generalize xs[i] = d at hxi hty
      have good : dayOk xs i d = true → forM (gT (gsC (gN 2) (gsC (gN 3) gs0))) (sIf (bOr (bNot (tru (eCall c_is_within (aCons (eName 3) (aCons (eC (.int 0)) (aCons (eC (.int 10000)) aNil)))))) (bAnd (tst (e2 dGt (eName 2) (eC (.int 0)))) (tst (e2 dLt (eName 3) (e2 dIx (eName 0) (e2 dSub (eName 2) (eC (.int 1)))))))) (sRaise "BadDays" (eName 2)) sNil) ((enumD xs).drop (xs.length - n)) [.v L, .v T, .v (.int (i : Nat)), .v d] W ((kS R E).sq (sIf (bNot (tru (eCall c_is_within (aCons (eName 1) (aCons (eC (.int 1)) (aCons (eC (.int 1000)) aNil)))))) (sRaise "BadTurn" (eName 1)) sNil)) := fun hg => by
        refine ih _ (by omega) (fun j d' hlt hd' => ?_) ⟨_, _, rfl⟩
        by_cases e : j = i
        · subst e
          rw [hxi] at hd'
          cases hd'
          exact hg
        · exact hj j d' (by omega) hd'
      have bad : dayOk xs i d = false → E ⟨"BadDays", [("value", .int (i : Nat))]⟩ W := fun hb => hb1 i d hxi hb hj
      simp only [ret_ap, bnd_ap, ask_ap, fail_ap, noE_ap, eName_ap, eOwn_ap, eC_ap, e1_ap, e2_ap, e2g_ap, e3_ap, tst_ap, bAnd_ap, bOr_ap, bNot_ap, bYes_ap, vAnd_ap, vOr_ap, vNot_ap, tru_ap, eIf_ap, aNil_ap, aCons_ap, aStar_ap, eTup_ap, eLst_ap, eTupS_ap, eLstS_ap, eCall_ap, eRef_ap, eIsi_ap, eIsi2_ap, iSeq_ap, iEn_ap, iR1_ap, iR2_ap, iR3_ap, eLc_ap, sNil_ap, sSeq_ap, sFrz_ap, sExpr_ap, sRet_ap, sAsg_ap, sOwn_ap, sIf_ap, sFor_ap, sAug_ap, sApp_ap, sExt_ap, sRaise_ap, gN_ap, gT_ap, gsC_ap, gs0_ap, sq_rt, sq_ex, sq_bk, sq_ct, lp_rt, lp_ex, lp_bk, lp_ct, lp_nx, kS_rt, kS_ex, kS_nx, List.getElem?_cons_zero, List.getElem?_cons_succ, List.set_cons_zero, List.set_cons_succ, Option.bind_some, dLen_lst, dLen_tup, dLen_dct, dLen_str, dAdd_ii, dAdd_ss, dAdd_ll, dAdd_tt, dSub_ii, dMul_ii, dMul_li, dFdiv_ii, dMod_ii, dPow_ii, dNeg_i, dCmp_ii, dSum_l, dAll_l, dAny_l, dAbs_i, dInt_i, dInt_b, dList_l, dList_t, dTuple_l, dTuple_t, dMax2_ii, dMin2_ii, dAddI_ii, dRev_l, dIx_l, dIx_t, dIx_d, orFail_some, orFail_none, tru_non, ty_non, tru_bl, ty_bl, tru_int, ty_int, tru_str, ty_str, tru_lst, ty_lst, tru_tup, ty_tup, tru_dct, ty_dct, its_lst, items_lst, its_tup, items_tup, isL_l, dIsN, dNotN, if_true, if_false, Bool.not_true, Bool.not_false, true_and, and_true, wipeE, isTy_NoneType_bool, isTy_NoneType_int, isTy_NoneType_str, isTy_NoneType_list, isTy_NoneType_tuple, isTy_NoneType_dict, isTy_bool_bool, isTy_bool_int, isTy_bool_str, isTy_bool_list, isTy_bool_tuple, isTy_bool_dict, isTy_int_bool, isTy_int_int, isTy_int_str, isTy_int_list, isTy_int_tuple, isTy_int_dict, isTy_str_bool, isTy_str_int, isTy_str_str, isTy_str_list, isTy_str_tuple, isTy_str_dict, isTy_list_bool, isTy_list_int, isTy_list_str, isTy_list_list, isTy_list_tuple, isTy_list_dict, isTy_tuple_bool, isTy_tuple_int, isTy_tuple_str, isTy_tuple_list, isTy_tuple_tuple, isTy_tuple_dict, isTy_dict_bool, isTy_dict_int, isTy_dict_str, isTy_dict_list, isTy_dict_tuple, isTy_dict_dict, sMulti_ap, giveE, eSl_ap, pN_ap, pS_ap, dSl_l, dSl_t, isN_non, isN_bl, isN_int, isN_str, isN_lst, isN_tup, isN_dct, isN_fn, isN_row, Bool.or_true, Bool.or_false, Bool.true_or, Bool.false_or, reduceCtorEq, eq_self, ↓reduceIte, is_within_ap d 0 10000 hty]
      cases hw : d.within 0 10000 with
      | false =>
        simp only [ret_ap, bnd_ap, ask_ap, fail_ap, noE_ap, eName_ap, eOwn_ap, eC_ap, e1_ap, e2_ap, e2g_ap, e3_ap, tst_ap, bAnd_ap, bOr_ap, bNot_ap, bYes_ap, vAnd_ap, vOr_ap, vNot_ap, tru_ap, eIf_ap, aNil_ap, aCons_ap, aStar_ap, eTup_ap, eLst_ap, eTupS_ap, eLstS_ap, eCall_ap, eRef_ap, eIsi_ap, eIsi2_ap, iSeq_ap, iEn_ap, iR1_ap, iR2_ap, iR3_ap, eLc_ap, sNil_ap, sSeq_ap, sFrz_ap, sExpr_ap, sRet_ap, sAsg_ap, sOwn_ap, sIf_ap, sFor_ap, sAug_ap, sApp_ap, sExt_ap, sRaise_ap, gN_ap, gT_ap, gsC_ap, gs0_ap, sq_rt, sq_ex, sq_bk, sq_ct, lp_rt, lp_ex, lp_bk, lp_ct, lp_nx, kS_rt, kS_ex, kS_nx, List.getElem?_cons_zero, List.getElem?_cons_succ, List.set_cons_zero, List.set_cons_succ, Option.bind_some, dLen_lst, dLen_tup, dLen_dct, dLen_str, dAdd_ii, dAdd_ss, dAdd_ll, dAdd_tt, dSub_ii, dMul_ii, dMul_li, dFdiv_ii, dMod_ii, dPow_ii, dNeg_i, dCmp_ii, dSum_l, dAll_l, dAny_l, dAbs_i, dInt_i, dInt_b, dList_l, dList_t, dTuple_l, dTuple_t, dMax2_ii, dMin2_ii, dAddI_ii, dRev_l, dIx_l, dIx_t, dIx_d, orFail_some, orFail_none, tru_non, ty_non, tru_bl, ty_bl, tru_int, ty_int, tru_str, ty_str, tru_lst, ty_lst, tru_tup, ty_tup, tru_dct, ty_dct, its_lst, items_lst, its_tup, items_tup, isL_l, dIsN, dNotN, if_true, if_false, Bool.not_true, Bool.not_false, true_and, and_true, wipeE, isTy_NoneType_bool, isTy_NoneType_int, isTy_NoneType_str, isTy_NoneType_list, isTy_NoneType_tuple, isTy_NoneType_dict, isTy_bool_bool, isTy_bool_int, isTy_bool_str, isTy_bool_list, isTy_bool_tuple, isTy_bool_dict, isTy_int_bool, isTy_int_int, isTy_int_str, isTy_int_list, isTy_int_tuple, isTy_int_dict, isTy_str_bool, isTy_str_int, isTy_str_str, isTy_str_list, isTy_str_tuple, isTy_str_dict, isTy_list_bool, isTy_list_int, isTy_list_str, isTy_list_list, isTy_list_tuple, isTy_list_dict, isTy_tuple_bool, isTy_tuple_int, isTy_tuple_str, isTy_tuple_list, isTy_tuple_tuple, isTy_tuple_dict, isTy_dict_bool, isTy_dict_int, isTy_dict_str, isTy_dict_list, isTy_dict_tuple, isTy_dict_dict, sMulti_ap, giveE, eSl_ap, pN_ap, pS_ap, dSl_l, dSl_t, isN_non, isN_bl, isN_int, isN_str, isN_lst, isN_tup, isN_dct, isN_fn, isN_row, Bool.or_true, Bool.or_false, Bool.true_or, Bool.false_or, reduceCtorEq, eq_self, ↓reduceIte]
        refine bad ?_
        unfold dayOk
        rw [hw, Bool.false_and]
      | true =>
        obtain ⟨v, rfl⟩ : ∃ v, d = .int v := by
          cases d with
          | int v => exact ⟨v, rfl⟩
          | _ => cases hw
        by_cases h0 : i = 0
        · subst h0
          rw [decide_eq_false (show ¬ ((0 : Nat) : Int) > 0 by omega)]
          simp only [ret_ap, bnd_ap, ask_ap, fail_ap, noE_ap, eName_ap, eOwn_ap, eC_ap, e1_ap, e2_ap, e2g_ap, e3_ap, tst_ap, bAnd_ap, bOr_ap, bNot_ap, bYes_ap, vAnd_ap, vOr_ap, vNot_ap, tru_ap, eIf_ap, aNil_ap, aCons_ap, aStar_ap, eTup_ap, eLst_ap, eTupS_ap, eLstS_ap, eCall_ap, eRef_ap, eIsi_ap, eIsi2_ap, iSeq_ap, iEn_ap, iR1_ap, iR2_ap, iR3_ap, eLc_ap, sNil_ap, sSeq_ap, sFrz_ap, sExpr_ap, sRet_ap, sAsg_ap, sOwn_ap, sIf_ap, sFor_ap, sAug_ap, sApp_ap, sExt_ap, sRaise_ap, gN_ap, gT_ap, gsC_ap, gs0_ap, sq_rt, sq_ex, sq_bk, sq_ct, lp_rt, lp_ex, lp_bk, lp_ct, lp_nx, kS_rt, kS_ex, kS_nx, List.getElem?_cons_zero, List.getElem?_cons_succ, List.set_cons_zero, List.set_cons_succ, Option.bind_some, dLen_lst, dLen_tup, dLen_dct, dLen_str, dAdd_ii, dAdd_ss, dAdd_ll, dAdd_tt, dSub_ii, dMul_ii, dMul_li, dFdiv_ii, dMod_ii, dPow_ii, dNeg_i, dCmp_ii, dSum_l, dAll_l, dAny_l, dAbs_i, dInt_i, dInt_b, dList_l, dList_t, dTuple_l, dTuple_t, dMax2_ii, dMin2_ii, dAddI_ii, dRev_l, dIx_l, dIx_t, dIx_d, orFail_some, orFail_none, tru_non, ty_non, tru_bl, ty_bl, tru_int, ty_int, tru_str, ty_str, tru_lst, ty_lst, tru_tup, ty_tup, tru_dct, ty_dct, its_lst, items_lst, its_tup, items_tup, isL_l, dIsN, dNotN, if_true, if_false, Bool.not_true, Bool.not_false, true_and, and_true, wipeE, isTy_NoneType_bool, isTy_NoneType_int, isTy_NoneType_str, isTy_NoneType_list, isTy_NoneType_tuple, isTy_NoneType_dict, isTy_bool_bool, isTy_bool_int, isTy_bool_str, isTy_bool_list, isTy_bool_tuple, isTy_bool_dict, isTy_int_bool, isTy_int_int, isTy_int_str, isTy_int_list, isTy_int_tuple, isTy_int_dict, isTy_str_bool, isTy_str_int, isTy_str_str, isTy_str_list, isTy_str_tuple, isTy_str_dict, isTy_list_bool, isTy_list_int, isTy_list_str, isTy_list_list, isTy_list_tuple, isTy_list_dict, isTy_tuple_bool, isTy_tuple_int, isTy_tuple_str, isTy_tuple_list, isTy_tuple_tuple, isTy_tuple_dict, isTy_dict_bool, isTy_dict_int, isTy_dict_str, isTy_dict_list, isTy_dict_tuple, isTy_dict_dict, sMulti_ap, giveE, eSl_ap, pN_ap, pS_ap, dSl_l, dSl_t, isN_non, isN_bl, isN_int, isN_str, isN_lst, isN_tup, isN_dct, isN_fn, isN_row, Bool.or_true, Bool.or_false, Bool.true_or, Bool.false_or, reduceCtorEq, eq_self, ↓reduceIte]
          refine good ?_
          unfold dayOk
          rw [hw]
          rfl
        · rw [decide_eq_true (show ((i : Nat) : Int) > 0 by omega)]
          simp only [ret_ap, bnd_ap, ask_ap, fail_ap, noE_ap, eName_ap, eOwn_ap, eC_ap, e1_ap, e2_ap, e2g_ap, e3_ap, tst_ap, bAnd_ap, bOr_ap, bNot_ap, bYes_ap, vAnd_ap, vOr_ap, vNot_ap, tru_ap, eIf_ap, aNil_ap, aCons_ap, aStar_ap, eTup_ap, eLst_ap, eTupS_ap, eLstS_ap, eCall_ap, eRef_ap, eIsi_ap, eIsi2_ap, iSeq_ap, iEn_ap, iR1_ap, iR2_ap, iR3_ap, eLc_ap, sNil_ap, sSeq_ap, sFrz_ap, sExpr_ap, sRet_ap, sAsg_ap, sOwn_ap, sIf_ap, sFor_ap, sAug_ap, sApp_ap, sExt_ap, sRaise_ap, gN_ap, gT_ap, gsC_ap, gs0_ap, sq_rt, sq_ex, sq_bk, sq_ct, lp_rt, lp_ex, lp_bk, lp_ct, lp_nx, kS_rt, kS_ex, kS_nx, List.getElem?_cons_zero, List.getElem?_cons_succ, List.set_cons_zero, List.set_cons_succ, Option.bind_some, dLen_lst, dLen_tup, dLen_dct, dLen_str, dAdd_ii, dAdd_ss, dAdd_ll, dAdd_tt, dSub_ii, dMul_ii, dMul_li, dFdiv_ii, dMod_ii, dPow_ii, dNeg_i, dCmp_ii, dSum_l, dAll_l, dAny_l, dAbs_i, dInt_i, dInt_b, dList_l, dList_t, dTuple_l, dTuple_t, dMax2_ii, dMin2_ii, dAddI_ii, dRev_l, dIx_l, dIx_t, dIx_d, orFail_some, orFail_none, tru_non, ty_non, tru_bl, ty_bl, tru_int, ty_int, tru_str, ty_str, tru_lst, ty_lst, tru_tup, ty_tup, tru_dct, ty_dct, its_lst, items_lst, its_tup, items_tup, isL_l, dIsN, dNotN, if_true, if_false, Bool.not_true, Bool.not_false, true_and, and_true, wipeE, isTy_NoneType_bool, isTy_NoneType_int, isTy_NoneType_str, isTy_NoneType_list, isTy_NoneType_tuple, isTy_NoneType_dict, isTy_bool_bool, isTy_bool_int, isTy_bool_str, isTy_bool_list, isTy_bool_tuple, isTy_bool_dict, isTy_int_bool, isTy_int_int, isTy_int_str, isTy_int_list, isTy_int_tuple, isTy_int_dict, isTy_str_bool, isTy_str_int, isTy_str_str, isTy_str_list, isTy_str_tuple, isTy_str_dict, isTy_list_bool, isTy_list_int, isTy_list_str, isTy_list_list, isTy_list_tuple, isTy_list_dict, isTy_tuple_bool, isTy_tuple_int, isTy_tuple_str, isTy_tuple_list, isTy_tuple_tuple, isTy_tuple_dict, isTy_dict_bool, isTy_dict_int, isTy_dict_str, isTy_dict_list, isTy_dict_tuple, isTy_dict_dict, sMulti_ap, giveE, eSl_ap, pN_ap, pS_ap, dSl_l, dSl_t, isN_non, isN_bl, isN_int, isN_str, isN_lst, isN_tup, isN_dct, isN_fn, isN_row, Bool.or_true, Bool.or_false, Bool.true_or, Bool.false_or, reduceCtorEq, eq_self, ↓reduceIte]
          have hp : xs[i - 1]? = some xs[i - 1] := List.getElem?_eq_getElem (by omega)
          have hprev := hj (i - 1) _ (by omega) hp
          obtain ⟨u, hu⟩ : ∃ u, xs[i - 1]? = some (.int u) := by
            unfold dayOk at hprev
            rw [Bool.and_eq_true] at hprev
            cases q : xs[i - 1] with
            | int u => exact ⟨u, by rw [hp, q]⟩
            | _ => rw [q] at hprev; cases hprev.1
          have e2 : atI xs ((i : Nat) - 1 : Int) = some (.int u) := by rw [show ((i : Nat) - 1 : Int) = ((i - 1 : Nat) : Int) by omega, Y.atI_nat, hu]
          have e3 : dayOk xs i (.int v) = decide (u ≤ v) := by
            unfold dayOk
            rw [hw, hu, decide_eq_false h0]
            rfl
          by_cases huv : v < u
          · rcases hL with rfl | rfl <;>
            · simp only [ret_ap, bnd_ap, ask_ap, fail_ap, noE_ap, eName_ap, eOwn_ap, eC_ap, e1_ap, e2_ap, e2g_ap, e3_ap, tst_ap, bAnd_ap, bOr_ap, bNot_ap, bYes_ap, vAnd_ap, vOr_ap, vNot_ap, tru_ap, eIf_ap, aNil_ap, aCons_ap, aStar_ap, eTup_ap, eLst_ap, eTupS_ap, eLstS_ap, eCall_ap, eRef_ap, eIsi_ap, eIsi2_ap, iSeq_ap, iEn_ap, iR1_ap, iR2_ap, iR3_ap, eLc_ap, sNil_ap, sSeq_ap, sFrz_ap, sExpr_ap, sRet_ap, sAsg_ap, sOwn_ap, sIf_ap, sFor_ap, sAug_ap, sApp_ap, sExt_ap, sRaise_ap, gN_ap, gT_ap, gsC_ap, gs0_ap, sq_rt, sq_ex, sq_bk, sq_ct, lp_rt, lp_ex, lp_bk, lp_ct, lp_nx, kS_rt, kS_ex, kS_nx, List.getElem?_cons_zero, List.getElem?_cons_succ, List.set_cons_zero, List.set_cons_succ, Option.bind_some, dLen_lst, dLen_tup, dLen_dct, dLen_str, dAdd_ii, dAdd_ss, dAdd_ll, dAdd_tt, dSub_ii, dMul_ii, dMul_li, dFdiv_ii, dMod_ii, dPow_ii, dNeg_i, dCmp_ii, dSum_l, dAll_l, dAny_l, dAbs_i, dInt_i, dInt_b, dList_l, dList_t, dTuple_l, dTuple_t, dMax2_ii, dMin2_ii, dAddI_ii, dRev_l, dIx_l, dIx_t, dIx_d, orFail_some, orFail_none, tru_non, ty_non, tru_bl, ty_bl, tru_int, ty_int, tru_str, ty_str, tru_lst, ty_lst, tru_tup, ty_tup, tru_dct, ty_dct, its_lst, items_lst, its_tup, items_tup, isL_l, dIsN, dNotN, if_true, if_false, Bool.not_true, Bool.not_false, true_and, and_true, wipeE, isTy_NoneType_bool, isTy_NoneType_int, isTy_NoneType_str, isTy_NoneType_list, isTy_NoneType_tuple, isTy_NoneType_dict, isTy_bool_bool, isTy_bool_int, isTy_bool_str, isTy_bool_list, isTy_bool_tuple, isTy_bool_dict, isTy_int_bool, isTy_int_int, isTy_int_str, isTy_int_list, isTy_int_tuple, isTy_int_dict, isTy_str_bool, isTy_str_int, isTy_str_str, isTy_str_list, isTy_str_tuple, isTy_str_dict, isTy_list_bool, isTy_list_int, isTy_list_str, isTy_list_list, isTy_list_tuple, isTy_list_dict, isTy_tuple_bool, isTy_tuple_int, isTy_tuple_str, isTy_tuple_list, isTy_tuple_tuple, isTy_tuple_dict, isTy_dict_bool, isTy_dict_int, isTy_dict_str, isTy_dict_list, isTy_dict_tuple, isTy_dict_dict, sMulti_ap, giveE, eSl_ap, pN_ap, pS_ap, dSl_l, dSl_t, isN_non, isN_bl, isN_int, isN_str, isN_lst, isN_tup, isN_dct, isN_fn, isN_row, Bool.or_true, Bool.or_false, Bool.true_or, Bool.false_or, reduceCtorEq, eq_self, ↓reduceIte, e2]
              rw [decide_eq_true huv]
              simp only [ret_ap, bnd_ap, ask_ap, fail_ap, noE_ap, eName_ap, eOwn_ap, eC_ap, e1_ap, e2_ap, e2g_ap, e3_ap, tst_ap, bAnd_ap, bOr_ap, bNot_ap, bYes_ap, vAnd_ap, vOr_ap, vNot_ap, tru_ap, eIf_ap, aNil_ap, aCons_ap, aStar_ap, eTup_ap, eLst_ap, eTupS_ap, eLstS_ap, eCall_ap, eRef_ap, eIsi_ap, eIsi2_ap, iSeq_ap, iEn_ap, iR1_ap, iR2_ap, iR3_ap, eLc_ap, sNil_ap, sSeq_ap, sFrz_ap, sExpr_ap, sRet_ap, sAsg_ap, sOwn_ap, sIf_ap, sFor_ap, sAug_ap, sApp_ap, sExt_ap, sRaise_ap, gN_ap, gT_ap, gsC_ap, gs0_ap, sq_rt, sq_ex, sq_bk, sq_ct, lp_rt, lp_ex, lp_bk, lp_ct, lp_nx, kS_rt, kS_ex, kS_nx, List.getElem?_cons_zero, List.getElem?_cons_succ, List.set_cons_zero, List.set_cons_succ, Option.bind_some, dLen_lst, dLen_tup, dLen_dct, dLen_str, dAdd_ii, dAdd_ss, dAdd_ll, dAdd_tt, dSub_ii, dMul_ii, dMul_li, dFdiv_ii, dMod_ii, dPow_ii, dNeg_i, dCmp_ii, dSum_l, dAll_l, dAny_l, dAbs_i, dInt_i, dInt_b, dList_l, dList_t, dTuple_l, dTuple_t, dMax2_ii, dMin2_ii, dAddI_ii, dRev_l, dIx_l, dIx_t, dIx_d, orFail_some, orFail_none, tru_non, ty_non, tru_bl, ty_bl, tru_int, ty_int, tru_str, ty_str, tru_lst, ty_lst, tru_tup, ty_tup, tru_dct, ty_dct, its_lst, items_lst, its_tup, items_tup, isL_l, dIsN, dNotN, if_true, if_false, Bool.not_true, Bool.not_false, true_and, and_true, wipeE, isTy_NoneType_bool, isTy_NoneType_int, isTy_NoneType_str, isTy_NoneType_list, isTy_NoneType_tuple, isTy_NoneType_dict, isTy_bool_bool, isTy_bool_int, isTy_bool_str, isTy_bool_list, isTy_bool_tuple, isTy_bool_dict, isTy_int_bool, isTy_int_int, isTy_int_str, isTy_int_list, isTy_int_tuple, isTy_int_dict, isTy_str_bool, isTy_str_int, isTy_str_str, isTy_str_list, isTy_str_tuple, isTy_str_dict, isTy_list_bool, isTy_list_int, isTy_list_str, isTy_list_list, isTy_list_tuple, isTy_list_dict, isTy_tuple_bool, isTy_tuple_int, isTy_tuple_str, isTy_tuple_list, isTy_tuple_tuple, isTy_tuple_dict, isTy_dict_bool, isTy_dict_int, isTy_dict_str, isTy_dict_list, isTy_dict_tuple, isTy_dict_dict, sMulti_ap, giveE, eSl_ap, pN_ap, pS_ap, dSl_l, dSl_t, isN_non, isN_bl, isN_int, isN_str, isN_lst, isN_tup, isN_dct, isN_fn, isN_row, Bool.or_true, Bool.or_false, Bool.true_or, Bool.false_or, reduceCtorEq, eq_self, ↓reduceIte]
              exact bad (by rw [e3, decide_eq_false (by omega)])
          · rcases hL with rfl | rfl <;>
            · simp only [ret_ap, bnd_ap, ask_ap, fail_ap, noE_ap, eName_ap, eOwn_ap, eC_ap, e1_ap, e2_ap, e2g_ap, e3_ap, tst_ap, bAnd_ap, bOr_ap, bNot_ap, bYes_ap, vAnd_ap, vOr_ap, vNot_ap, tru_ap, eIf_ap, aNil_ap, aCons_ap, aStar_ap, eTup_ap, eLst_ap, eTupS_ap, eLstS_ap, eCall_ap, eRef_ap, eIsi_ap, eIsi2_ap, iSeq_ap, iEn_ap, iR1_ap, iR2_ap, iR3_ap, eLc_ap, sNil_ap, sSeq_ap, sFrz_ap, sExpr_ap, sRet_ap, sAsg_ap, sOwn_ap, sIf_ap, sFor_ap, sAug_ap, sApp_ap, sExt_ap, sRaise_ap, gN_ap, gT_ap, gsC_ap, gs0_ap, sq_rt, sq_ex, sq_bk, sq_ct, lp_rt, lp_ex, lp_bk, lp_ct, lp_nx, kS_rt, kS_ex, kS_nx, List.getElem?_cons_zero, List.getElem?_cons_succ, List.set_cons_zero, List.set_cons_succ, Option.bind_some, dLen_lst, dLen_tup, dLen_dct, dLen_str, dAdd_ii, dAdd_ss, dAdd_ll, dAdd_tt, dSub_ii, dMul_ii, dMul_li, dFdiv_ii, dMod_ii, dPow_ii, dNeg_i, dCmp_ii, dSum_l, dAll_l, dAny_l, dAbs_i, dInt_i, dInt_b, dList_l, dList_t, dTuple_l, dTuple_t, dMax2_ii, dMin2_ii, dAddI_ii, dRev_l, dIx_l, dIx_t, dIx_d, orFail_some, orFail_none, tru_non, ty_non, tru_bl, ty_bl, tru_int, ty_int, tru_str, ty_str, tru_lst, ty_lst, tru_tup, ty_tup, tru_dct, ty_dct, its_lst, items_lst, its_tup, items_tup, isL_l, dIsN, dNotN, if_true, if_false, Bool.not_true, Bool.not_false, true_and, and_true, wipeE, isTy_NoneType_bool, isTy_NoneType_int, isTy_NoneType_str, isTy_NoneType_list, isTy_NoneType_tuple, isTy_NoneType_dict, isTy_bool_bool, isTy_bool_int, isTy_bool_str, isTy_bool_list, isTy_bool_tuple, isTy_bool_dict, isTy_int_bool, isTy_int_int, isTy_int_str, isTy_int_list, isTy_int_tuple, isTy_int_dict, isTy_str_bool, isTy_str_int, isTy_str_str, isTy_str_list, isTy_str_tuple, isTy_str_dict, isTy_list_bool, isTy_list_int, isTy_list_str, isTy_list_list, isTy_list_tuple, isTy_list_dict, isTy_tuple_bool, isTy_tuple_int, isTy_tuple_str, isTy_tuple_list, isTy_tuple_tuple, isTy_tuple_dict, isTy_dict_bool, isTy_dict_int, isTy_dict_str, isTy_dict_list, isTy_dict_tuple, isTy_dict_dict, sMulti_ap, giveE, eSl_ap, pN_ap, pS_ap, dSl_l, dSl_t, isN_non, isN_bl, isN_int, isN_str, isN_lst, isN_tup, isN_dct, isN_fn, isN_row, Bool.or_true, Bool.or_false, Bool.true_or, Bool.false_or, reduceCtorEq, eq_self, ↓reduceIte, e2]
              rw [decide_eq_false huv]
              simp only [ret_ap, bnd_ap, ask_ap, fail_ap, noE_ap, eName_ap, eOwn_ap, eC_ap, e1_ap, e2_ap, e2g_ap, e3_ap, tst_ap, bAnd_ap, bOr_ap, bNot_ap, bYes_ap, vAnd_ap, vOr_ap, vNot_ap, tru_ap, eIf_ap, aNil_ap, aCons_ap, aStar_ap, eTup_ap, eLst_ap, eTupS_ap, eLstS_ap, eCall_ap, eRef_ap, eIsi_ap, eIsi2_ap, iSeq_ap, iEn_ap, iR1_ap, iR2_ap, iR3_ap, eLc_ap, sNil_ap, sSeq_ap, sFrz_ap, sExpr_ap, sRet_ap, sAsg_ap, sOwn_ap, sIf_ap, sFor_ap, sAug_ap, sApp_ap, sExt_ap, sRaise_ap, gN_ap, gT_ap, gsC_ap, gs0_ap, sq_rt, sq_ex, sq_bk, sq_ct, lp_rt, lp_ex, lp_bk, lp_ct, lp_nx, kS_rt, kS_ex, kS_nx, List.getElem?_cons_zero, List.getElem?_cons_succ, List.set_cons_zero, List.set_cons_succ, Option.bind_some, dLen_lst, dLen_tup, dLen_dct, dLen_str, dAdd_ii, dAdd_ss, dAdd_ll, dAdd_tt, dSub_ii, dMul_ii, dMul_li, dFdiv_ii, dMod_ii, dPow_ii, dNeg_i, dCmp_ii, dSum_l, dAll_l, dAny_l, dAbs_i, dInt_i, dInt_b, dList_l, dList_t, dTuple_l, dTuple_t, dMax2_ii, dMin2_ii, dAddI_ii, dRev_l, dIx_l, dIx_t, dIx_d, orFail_some, orFail_none, tru_non, ty_non, tru_bl, ty_bl, tru_int, ty_int, tru_str, ty_str, tru_lst, ty_lst, tru_tup, ty_tup, tru_dct, ty_dct, its_lst, items_lst, its_tup, items_tup, isL_l, dIsN, dNotN, if_true, if_false, Bool.not_true, Bool.not_false, true_and, and_true, wipeE, isTy_NoneType_bool, isTy_NoneType_int, isTy_NoneType_str, isTy_NoneType_list, isTy_NoneType_tuple, isTy_NoneType_dict, isTy_bool_bool, isTy_bool_int, isTy_bool_str, isTy_bool_list, isTy_bool_tuple, isTy_bool_dict, isTy_int_bool, isTy_int_int, isTy_int_str, isTy_int_list, isTy_int_tuple, isTy_int_dict, isTy_str_bool, isTy_str_int, isTy_str_str, isTy_str_list, isTy_str_tuple, isTy_str_dict, isTy_list_bool, isTy_list_int, isTy_list_str, isTy_list_list, isTy_list_tuple, isTy_list_dict, isTy_tuple_bool, isTy_tuple_int, isTy_tuple_str, isTy_tuple_list, isTy_tuple_tuple, isTy_tuple_dict, isTy_dict_bool, isTy_dict_int, isTy_dict_str, isTy_dict_list, isTy_dict_tuple, isTy_dict_dict, sMulti_ap, giveE, eSl_ap, pN_ap, pS_ap, dSl_l, dSl_t, isN_non, isN_bl, isN_int, isN_str, isN_lst, isN_tup, isN_dct, isN_fn, isN_row, Bool.or_true, Bool.or_false, Bool.true_or, Bool.false_or, reduceCtorEq, eq_self, ↓reduceIte]
              exact good (by rw [e3, decide_eq_true (by omega)])
  have all := loop xs.length [.v L, .v T, .no, .no] (Nat.le_refl _) (fun j d' hj => absurd hj (by omega)) ⟨_, _, rfl⟩
  rw [Nat.sub_self, List.drop_zero] at all
  have l1 : decide ((60 : Int) < (xs.length : Nat)) = false := decide_eq_false (by omega)
  rcases hL with rfl | rfl <;>
  · simp only [ret_ap, bnd_ap, ask_ap, fail_ap, noE_ap, eName_ap, eOwn_ap, eC_ap, e1_ap, e2_ap, e2g_ap, e3_ap, tst_ap, bAnd_ap, bOr_ap, bNot_ap, bYes_ap, vAnd_ap, vOr_ap, vNot_ap, tru_ap, eIf_ap, aNil_ap, aCons_ap, aStar_ap, eTup_ap, eLst_ap, eTupS_ap, eLstS_ap, eCall_ap, eRef_ap, eIsi_ap, eIsi2_ap, iSeq_ap, iEn_ap, iR1_ap, iR2_ap, iR3_ap, eLc_ap, sNil_ap, sSeq_ap, sFrz_ap, sExpr_ap, sRet_ap, sAsg_ap, sOwn_ap, sIf_ap, sFor_ap, sAug_ap, sApp_ap, sExt_ap, sRaise_ap, gN_ap, gT_ap, gsC_ap, gs0_ap, sq_rt, sq_ex, sq_bk, sq_ct, lp_rt, lp_ex, lp_bk, lp_ct, lp_nx, kS_rt, kS_ex, kS_nx, List.getElem?_cons_zero, List.getElem?_cons_succ, List.set_cons_zero, List.set_cons_succ, Option.bind_some, dLen_lst, dLen_tup, dLen_dct, dLen_str, dAdd_ii, dAdd_ss, dAdd_ll, dAdd_tt, dSub_ii, dMul_ii, dMul_li, dFdiv_ii, dMod_ii, dPow_ii, dNeg_i, dCmp_ii, dSum_l, dAll_l, dAny_l, dAbs_i, dInt_i, dInt_b, dList_l, dList_t, dTuple_l, dTuple_t, dMax2_ii, dMin2_ii, dAddI_ii, dRev_l, dIx_l, dIx_t, dIx_d, orFail_some, orFail_none, tru_non, ty_non, tru_bl, ty_bl, tru_int, ty_int, tru_str, ty_str, tru_lst, ty_lst, tru_tup, ty_tup, tru_dct, ty_dct, its_lst, items_lst, its_tup, items_tup, isL_l, dIsN, dNotN, if_true, if_false, Bool.not_true, Bool.not_false, true_and, and_true, wipeE, isTy_NoneType_bool, isTy_NoneType_int, isTy_NoneType_str, isTy_NoneType_list, isTy_NoneType_tuple, isTy_NoneType_dict, isTy_bool_bool, isTy_bool_int, isTy_bool_str, isTy_bool_list, isTy_bool_tuple, isTy_bool_dict, isTy_int_bool, isTy_int_int, isTy_int_str, isTy_int_list, isTy_int_tuple, isTy_int_dict, isTy_str_bool, isTy_str_int, isTy_str_str, isTy_str_list, isTy_str_tuple, isTy_str_dict, isTy_list_bool, isTy_list_int, isTy_list_str, isTy_list_list, isTy_list_tuple, isTy_list_dict, isTy_tuple_bool, isTy_tuple_int, isTy_tuple_str, isTy_tuple_list, isTy_tuple_tuple, isTy_tuple_dict, isTy_dict_bool, isTy_dict_int, isTy_dict_str, isTy_dict_list, isTy_dict_tuple, isTy_dict_dict, sMulti_ap, giveE, eSl_ap, pN_ap, pS_ap, dSl_l, dSl_t, isN_non, isN_bl, isN_int, isN_str, isN_lst, isN_tup, isN_dct, isN_fn, isN_row, Bool.or_true, Bool.or_false, Bool.true_or, Bool.false_or, reduceCtorEq, eq_self, ↓reduceIte, sq_nx, is_row_ap _ (show (D.ty (.lst xs)).isSome = true from rfl), is_row_ap _ (show (D.ty (.tup xs)).isSome = true from rfl), D.isRow, l1]
    exact all
end
end K19

set_option maxRecDepth 100000
set_option maxHeartbeats 1000000
namespace K19
open PySem PySem.Spec PyProof.Rows L2 Y
open PySem.W (AllAlike Sortable dataLe dataLt)
abbrev intsD (xs : List Int) : D := .lst (xs.map .int)
/-- days as the law draws them -/
structure Days (ds : List Int) : Prop where
  len : ds.length ≤ 60
  rng : ∀ d ∈ ds, 0 ≤ d ∧ d < 300
  srt : ds.Pairwise fun a b => a ≤ b
theorem Days.get {ds : List Int} (F : Days ds) {i : Nat} (h : i < ds.length) : 0 ≤ ds.getD i 0 ∧ ds.getD i 0 < 300 := by
  rw [List.getD_eq_getElem?_getD, List.getElem?_eq_getElem h]
  exact F.rng _ (List.getElem_mem h)
theorem Days.le {ds : List Int} (F : Days ds) {i j : Nat} (h : i ≤ j) (hj : j < ds.length) : ds.getD i 0 ≤ ds.getD j 0 := by
  by_cases e : i = j
  · rw [e]; exact Int.le_refl _
  · have := List.pairwise_iff_getElem.mp F.srt i j (by omega) hj (by omega)
    rw [List.getD_eq_getElem?_getD, List.getD_eq_getElem?_getD, List.getElem?_eq_getElem hj, List.getElem?_eq_getElem (by omega)]
    exact this
section
variable {W : List MO} {R : D → List MO → Prop} {E : Exn → List MO → Prop} {ds : List Int}
theorem ty_ints (ds : List Int) : ∀ d ∈ ds.map D.int, d.ty.isSome = true := fun d hd => by obtain ⟨a, _, rfl⟩ := List.mem_map.mp hd; rfl
theorem Days.ok (F : Days ds) : ∀ i d, (ds.map D.int)[i]? = some d → dayOk (ds.map D.int) i d = true := fun i d hd => by
  rw [List.getElem?_map] at hd
  cases q : ds[i]? with
  | none => rw [q] at hd; cases hd
  | some v =>
    rw [q] at hd
    cases hd
    obtain ⟨hlt, hv⟩ := List.getElem?_eq_some_iff.mp q
    have hr := F.rng v (List.mem_of_getElem? q)
    unfold dayOk
    rw [Bool.and_eq_true]
    refine ⟨?_, ?_⟩
    · show (decide (0 ≤ v) && decide (v ≤ 10000)) = true
      rw [decide_eq_true hr.1, decide_eq_true (by omega)]
      rfl
    · by_cases h0 : i = 0
      · rw [decide_eq_true h0]; rfl
      · rw [decide_eq_false h0, Bool.false_or, List.getElem?_map, List.getElem?_eq_getElem (show i - 1 < ds.length by omega)]
        have := F.le (show i - 1 ≤ i by omega) hlt
        rw [List.getD_eq_getElem?_getD, List.getD_eq_getElem?_getD, List.getElem?_eq_getElem hlt, List.getElem?_eq_getElem (show i - 1 < ds.length by omega)] at this
        rw [← hv]
        exact decide_eq_true this
theorem days_ok (F : Days ds) {L : D} (hL : L = .lst (ds.map .int) ∨ L = .tup (ds.map .int)) {T : D} (hT : T.ty.isSome = true) (h1 : T.within 1 1000 = true → R .non W) (h2 : T.within 1 1000 = false → E ⟨"BadTurn", [("value", T)]⟩ W) : c_check_days [L, T] W R E :=
  check_days_ap L T (ds.map .int) hL (by rw [List.length_map]; exact F.len) (ty_ints ds) hT (fun i d hd hb _ => by rw [F.ok i d hd] at hb; cases hb) (fun _ h => h2 h) fun _ h => h1 h
/-! ### away -/
def awayN (ds bs : List Int) (i : Nat) : Int := ((bs.take (i + 1)).countP fun b => decide (ds.getD i 0 < b) : Nat)
def awayI (ds bs : List Int) : List Int := (List.range ds.length).map (awayN ds bs)
theorem awayI_length (ds bs : List Int) : (awayI ds bs).length = ds.length := by unfold awayI; rw [List.length_map, List.length_range]
theorem awayI_get (ds bs : List Int) (i : Nat) (h : i < ds.length) : (awayI ds bs)[i]? = some (awayN ds bs i) := by
  unfold awayI
  rw [List.getElem?_map, List.getElem?_range h]
  rfl
theorem away_ap (F : Days ds) {L : D} (hL : L = .lst (ds.map .int) ∨ L = .tup (ds.map .int)) (bs : List Int) (hb : bs.length ≤ 1000) (h : R (intsD (awayI ds bs)) W) : c_away [L, intsD bs] W R E := by
  have f60 := F.len
  show sm_away [.v L, .v (intsD bs), .no, .no, .no, .no] W (kS R E)
  unfold sm_away
  have key : forM (gT (gsC (gN 3) (gsC (gN 4) gs0))) (sApp 2 (e1 dLen (eLc [5] (gN 5) (tst (e2 dGt (eName 5) (eName 4))) (eName 5) (iSeq (eSl dSl (eName 1) pN (pS (e2 dAdd (eName 3) (eC (.int 1))))))))) (enumD (ds.map .int)) [.v L, .v (intsD bs), .o (.lst []), .no, .no, .no] W ((kS R E).sq (sFrz 2 (sRet (eName 2)))) := by
    refine forM_inv (fun i e w => ∃ a b, e = [.v L, .v (intsD bs), .o (.lst (((awayI ds bs).take i).map .int)), a, b, .no] ∧ w = W) ⟨_, _, rfl, rfl⟩ ?_ ?_
    · rintro i d e w P hd ⟨a, b, rfl, rfl⟩ hP
      rw [enumD_get, List.getElem?_map] at hd
      cases q : ds[i]? with
      | none => rw [q] at hd; cases hd
      | some v =>
        rw [q] at hd
        cases hd
        obtain ⟨hlt, hv⟩ := List.getElem?_eq_some_iff.mp q
        have ev : ds.getD i 0 = v := by rw [List.getD_eq_getElem?_getD, q]; rfl
        refine ⟨_, rfl, ?_⟩
        have ci : ((i : Nat) : Int) + 1 = ((i + 1 : Nat) : Int) := by omega
        simp only [sApp_ap, e1_ap, eLc_ap, iSeq_ap, eSl_ap, eName_ap, pN_ap, pS_ap, e2_ap, eC_ap, dAdd_ii, ret_ap, dSl_l, its_lst, List.getElem?_cons_zero, List.getElem?_cons_succ, List.set_cons_zero, List.set_cons_succ, wipeE, ci, cut_to]
        refine compM_map (p := fun d => match d with | .int b => decide (v < b) | _ => false) (g := fun d => d) (fun d hd => ?_) ?_
        · obtain ⟨b, hb, rfl⟩ := List.mem_map.mp (List.mem_of_mem_take hd)
          refine ⟨_, rfl, fun W RB E h => ?_, fun _ W R E h => ?_⟩
          · simp only [ret_ap, bnd_ap, ask_ap, fail_ap, noE_ap, eName_ap, eOwn_ap, eC_ap, e1_ap, e2_ap, e2g_ap, e3_ap, tst_ap, bAnd_ap, bOr_ap, bNot_ap, bYes_ap, vAnd_ap, vOr_ap, vNot_ap, tru_ap, eIf_ap, aNil_ap, aCons_ap, aStar_ap, eTup_ap, eLst_ap, eTupS_ap, eLstS_ap, eCall_ap, eRef_ap, eIsi_ap, eIsi2_ap, iSeq_ap, iEn_ap, iR1_ap, iR2_ap, iR3_ap, eLc_ap, sNil_ap, sSeq_ap, sFrz_ap, sExpr_ap, sRet_ap, sAsg_ap, sOwn_ap, sIf_ap, sFor_ap, sAug_ap, sApp_ap, sExt_ap, sRaise_ap, gN_ap, gT_ap, gsC_ap, gs0_ap, sq_rt, sq_ex, sq_bk, sq_ct, lp_rt, lp_ex, lp_bk, lp_ct, lp_nx, kS_rt, kS_ex, kS_nx, List.getElem?_cons_zero, List.getElem?_cons_succ, List.set_cons_zero, List.set_cons_succ, Option.bind_some, dLen_lst, dLen_tup, dLen_dct, dLen_str, dAdd_ii, dAdd_ss, dAdd_ll, dAdd_tt, dSub_ii, dMul_ii, dMul_li, dFdiv_ii, dMod_ii, dPow_ii, dNeg_i, dCmp_ii, dSum_l, dAll_l, dAny_l, dAbs_i, dInt_i, dInt_b, dList_l, dList_t, dTuple_l, dTuple_t, dMax2_ii, dMin2_ii, dAddI_ii, dRev_l, dIx_l, dIx_t, dIx_d, orFail_some, orFail_none, tru_non, ty_non, tru_bl, ty_bl, tru_int, ty_int, tru_str, ty_str, tru_lst, ty_lst, tru_tup, ty_tup, tru_dct, ty_dct, its_lst, items_lst, its_tup, items_tup, isL_l, dIsN, dNotN, if_true, if_false, Bool.not_true, Bool.not_false, true_and, and_true, wipeE, isTy_NoneType_bool, isTy_NoneType_int, isTy_NoneType_str, isTy_NoneType_list, isTy_NoneType_tuple, isTy_NoneType_dict, isTy_bool_bool, isTy_bool_int, isTy_bool_str, isTy_bool_list, isTy_bool_tuple, isTy_bool_dict, isTy_int_bool, isTy_int_int, isTy_int_str, isTy_int_list, isTy_int_tuple, isTy_int_dict, isTy_str_bool, isTy_str_int, isTy_str_str, isTy_str_list, isTy_str_tuple, isTy_str_dict, isTy_list_bool, isTy_list_int, isTy_list_str, isTy_list_list, isTy_list_tuple, isTy_list_dict, isTy_tuple_bool, isTy_tuple_int, isTy_tuple_str, isTy_tuple_list, isTy_tuple_tuple, isTy_tuple_dict, isTy_dict_bool, isTy_dict_int, isTy_dict_str, isTy_dict_list, isTy_dict_tuple, isTy_dict_dict, sMulti_ap, giveE, eSl_ap, pN_ap, pS_ap, dSl_l, dSl_t, isN_non, isN_bl, isN_int, isN_str, isN_lst, isN_tup, isN_dct, isN_fn, isN_row, Bool.or_true, Bool.or_false, Bool.true_or, Bool.false_or, reduceCtorEq, eq_self, ↓reduceIte]
            exact h
          · simp only [ret_ap, bnd_ap, ask_ap, fail_ap, noE_ap, eName_ap, eOwn_ap, eC_ap, e1_ap, e2_ap, e2g_ap, e3_ap, tst_ap, bAnd_ap, bOr_ap, bNot_ap, bYes_ap, vAnd_ap, vOr_ap, vNot_ap, tru_ap, eIf_ap, aNil_ap, aCons_ap, aStar_ap, eTup_ap, eLst_ap, eTupS_ap, eLstS_ap, eCall_ap, eRef_ap, eIsi_ap, eIsi2_ap, iSeq_ap, iEn_ap, iR1_ap, iR2_ap, iR3_ap, eLc_ap, sNil_ap, sSeq_ap, sFrz_ap, sExpr_ap, sRet_ap, sAsg_ap, sOwn_ap, sIf_ap, sFor_ap, sAug_ap, sApp_ap, sExt_ap, sRaise_ap, gN_ap, gT_ap, gsC_ap, gs0_ap, sq_rt, sq_ex, sq_bk, sq_ct, lp_rt, lp_ex, lp_bk, lp_ct, lp_nx, kS_rt, kS_ex, kS_nx, List.getElem?_cons_zero, List.getElem?_cons_succ, List.set_cons_zero, List.set_cons_succ, Option.bind_some, dLen_lst, dLen_tup, dLen_dct, dLen_str, dAdd_ii, dAdd_ss, dAdd_ll, dAdd_tt, dSub_ii, dMul_ii, dMul_li, dFdiv_ii, dMod_ii, dPow_ii, dNeg_i, dCmp_ii, dSum_l, dAll_l, dAny_l, dAbs_i, dInt_i, dInt_b, dList_l, dList_t, dTuple_l, dTuple_t, dMax2_ii, dMin2_ii, dAddI_ii, dRev_l, dIx_l, dIx_t, dIx_d, orFail_some, orFail_none, tru_non, ty_non, tru_bl, ty_bl, tru_int, ty_int, tru_str, ty_str, tru_lst, ty_lst, tru_tup, ty_tup, tru_dct, ty_dct, its_lst, items_lst, its_tup, items_tup, isL_l, dIsN, dNotN, if_true, if_false, Bool.not_true, Bool.not_false, true_and, and_true, wipeE, isTy_NoneType_bool, isTy_NoneType_int, isTy_NoneType_str, isTy_NoneType_list, isTy_NoneType_tuple, isTy_NoneType_dict, isTy_bool_bool, isTy_bool_int, isTy_bool_str, isTy_bool_list, isTy_bool_tuple, isTy_bool_dict, isTy_int_bool, isTy_int_int, isTy_int_str, isTy_int_list, isTy_int_tuple, isTy_int_dict, isTy_str_bool, isTy_str_int, isTy_str_str, isTy_str_list, isTy_str_tuple, isTy_str_dict, isTy_list_bool, isTy_list_int, isTy_list_str, isTy_list_list, isTy_list_tuple, isTy_list_dict, isTy_tuple_bool, isTy_tuple_int, isTy_tuple_str, isTy_tuple_list, isTy_tuple_tuple, isTy_tuple_dict, isTy_dict_bool, isTy_dict_int, isTy_dict_str, isTy_dict_list, isTy_dict_tuple, isTy_dict_dict, sMulti_ap, giveE, eSl_ap, pN_ap, pS_ap, dSl_l, dSl_t, isN_non, isN_bl, isN_int, isN_str, isN_lst, isN_tup, isN_dct, isN_fn, isN_row, Bool.or_true, Bool.or_false, Bool.true_or, Bool.false_or, reduceCtorEq, eq_self, ↓reduceIte]
            exact h
        · have el : ((((bs.map D.int).take (i + 1)).filter fun d => match d with | .int b => decide (v < b) | _ => false).map fun d => d).length = (bs.take (i + 1)).countP fun b => decide (ds.getD i 0 < b) := by
            rw [List.length_map, ← List.map_take, List.filter_map, List.length_map, ev, List.countP_eq_length_filter]
            rfl
          simp only [dLen_lst, ret_ap, el]
          refine ⟨?_, hP _ _ ⟨.v (.int (i : Nat)), .v (.int v), ?_, rfl⟩⟩
          · rw [List.length_map]
            have : ((awayI ds bs).take i).length ≤ i := by rw [List.length_take]; omega
            show _ < 16777216
            omega
          · have e9 : (awayI ds bs).take (i + 1) = (awayI ds bs).take i ++ [awayN ds bs i] := by rw [List.take_add_one, awayI_get ds bs i hlt]; rfl
            rw [e9, List.map_append]
            rfl
    · rintro e w ⟨a, b, rfl, rfl⟩
      rw [enumD_length, List.length_map, List.take_of_length_le (by rw [awayI_length]; exact Nat.le_refl _)]
      simp only [ret_ap, bnd_ap, ask_ap, fail_ap, noE_ap, eName_ap, eOwn_ap, eC_ap, e1_ap, e2_ap, e2g_ap, e3_ap, tst_ap, bAnd_ap, bOr_ap, bNot_ap, bYes_ap, vAnd_ap, vOr_ap, vNot_ap, tru_ap, eIf_ap, aNil_ap, aCons_ap, aStar_ap, eTup_ap, eLst_ap, eTupS_ap, eLstS_ap, eCall_ap, eRef_ap, eIsi_ap, eIsi2_ap, iSeq_ap, iEn_ap, iR1_ap, iR2_ap, iR3_ap, eLc_ap, sNil_ap, sSeq_ap, sFrz_ap, sExpr_ap, sRet_ap, sAsg_ap, sOwn_ap, sIf_ap, sFor_ap, sAug_ap, sApp_ap, sExt_ap, sRaise_ap, gN_ap, gT_ap, gsC_ap, gs0_ap, sq_rt, sq_ex, sq_bk, sq_ct, lp_rt, lp_ex, lp_bk, lp_ct, lp_nx, kS_rt, kS_ex, kS_nx, List.getElem?_cons_zero, List.getElem?_cons_succ, List.set_cons_zero, List.set_cons_succ, Option.bind_some, dLen_lst, dLen_tup, dLen_dct, dLen_str, dAdd_ii, dAdd_ss, dAdd_ll, dAdd_tt, dSub_ii, dMul_ii, dMul_li, dFdiv_ii, dMod_ii, dPow_ii, dNeg_i, dCmp_ii, dSum_l, dAll_l, dAny_l, dAbs_i, dInt_i, dInt_b, dList_l, dList_t, dTuple_l, dTuple_t, dMax2_ii, dMin2_ii, dAddI_ii, dRev_l, dIx_l, dIx_t, dIx_d, orFail_some, orFail_none, tru_non, ty_non, tru_bl, ty_bl, tru_int, ty_int, tru_str, ty_str, tru_lst, ty_lst, tru_tup, ty_tup, tru_dct, ty_dct, its_lst, items_lst, its_tup, items_tup, isL_l, dIsN, dNotN, if_true, if_false, Bool.not_true, Bool.not_false, true_and, and_true, wipeE, isTy_NoneType_bool, isTy_NoneType_int, isTy_NoneType_str, isTy_NoneType_list, isTy_NoneType_tuple, isTy_NoneType_dict, isTy_bool_bool, isTy_bool_int, isTy_bool_str, isTy_bool_list, isTy_bool_tuple, isTy_bool_dict, isTy_int_bool, isTy_int_int, isTy_int_str, isTy_int_list, isTy_int_tuple, isTy_int_dict, isTy_str_bool, isTy_str_int, isTy_str_str, isTy_str_list, isTy_str_tuple, isTy_str_dict, isTy_list_bool, isTy_list_int, isTy_list_str, isTy_list_list, isTy_list_tuple, isTy_list_dict, isTy_tuple_bool, isTy_tuple_int, isTy_tuple_str, isTy_tuple_list, isTy_tuple_tuple, isTy_tuple_dict, isTy_dict_bool, isTy_dict_int, isTy_dict_str, isTy_dict_list, isTy_dict_tuple, isTy_dict_dict, sMulti_ap, giveE, eSl_ap, pN_ap, pS_ap, dSl_l, dSl_t, isN_non, isN_bl, isN_int, isN_str, isN_lst, isN_tup, isN_dct, isN_fn, isN_row, Bool.or_true, Bool.or_false, Bool.true_or, Bool.false_or, reduceCtorEq, eq_self, ↓reduceIte, sq_nx]
      exact h
  rcases hL with rfl | rfl <;>
  · simp only [ret_ap, bnd_ap, ask_ap, fail_ap, noE_ap, eName_ap, eOwn_ap, eC_ap, e1_ap, e2_ap, e2g_ap, e3_ap, tst_ap, bAnd_ap, bOr_ap, bNot_ap, bYes_ap, vAnd_ap, vOr_ap, vNot_ap, tru_ap, eIf_ap, aNil_ap, aCons_ap, aStar_ap, eTup_ap, eLst_ap, eTupS_ap, eLstS_ap, eCall_ap, eRef_ap, eIsi_ap, eIsi2_ap, iSeq_ap, iEn_ap, iR1_ap, iR2_ap, iR3_ap, eLc_ap, sNil_ap, sSeq_ap, sFrz_ap, sExpr_ap, sRet_ap, sAsg_ap, sOwn_ap, sIf_ap, sFor_ap, sAug_ap, sApp_ap, sExt_ap, sRaise_ap, gN_ap, gT_ap, gsC_ap, gs0_ap, sq_rt, sq_ex, sq_bk, sq_ct, lp_rt, lp_ex, lp_bk, lp_ct, lp_nx, kS_rt, kS_ex, kS_nx, List.getElem?_cons_zero, List.getElem?_cons_succ, List.set_cons_zero, List.set_cons_succ, Option.bind_some, dLen_lst, dLen_tup, dLen_dct, dLen_str, dAdd_ii, dAdd_ss, dAdd_ll, dAdd_tt, dSub_ii, dMul_ii, dMul_li, dFdiv_ii, dMod_ii, dPow_ii, dNeg_i, dCmp_ii, dSum_l, dAll_l, dAny_l, dAbs_i, dInt_i, dInt_b, dList_l, dList_t, dTuple_l, dTuple_t, dMax2_ii, dMin2_ii, dAddI_ii, dRev_l, dIx_l, dIx_t, dIx_d, orFail_some, orFail_none, tru_non, ty_non, tru_bl, ty_bl, tru_int, ty_int, tru_str, ty_str, tru_lst, ty_lst, tru_tup, ty_tup, tru_dct, ty_dct, its_lst, items_lst, its_tup, items_tup, isL_l, dIsN, dNotN, if_true, if_false, Bool.not_true, Bool.not_false, true_and, and_true, wipeE, isTy_NoneType_bool, isTy_NoneType_int, isTy_NoneType_str, isTy_NoneType_list, isTy_NoneType_tuple, isTy_NoneType_dict, isTy_bool_bool, isTy_bool_int, isTy_bool_str, isTy_bool_list, isTy_bool_tuple, isTy_bool_dict, isTy_int_bool, isTy_int_int, isTy_int_str, isTy_int_list, isTy_int_tuple, isTy_int_dict, isTy_str_bool, isTy_str_int, isTy_str_str, isTy_str_list, isTy_str_tuple, isTy_str_dict, isTy_list_bool, isTy_list_int, isTy_list_str, isTy_list_list, isTy_list_tuple, isTy_list_dict, isTy_tuple_bool, isTy_tuple_int, isTy_tuple_str, isTy_tuple_list, isTy_tuple_tuple, isTy_tuple_dict, isTy_dict_bool, isTy_dict_int, isTy_dict_str, isTy_dict_list, isTy_dict_tuple, isTy_dict_dict, sMulti_ap, giveE, eSl_ap, pN_ap, pS_ap, dSl_l, dSl_t, isN_non, isN_bl, isN_int, isN_str, isN_lst, isN_tup, isN_dct, isN_fn, isN_row, Bool.or_true, Bool.or_false, Bool.true_or, Bool.false_or, reduceCtorEq, eq_self, ↓reduceIte, sq_nx]
    exact key
def plainB (ds : List Int) (t : Int) : List Int := ds.map fun d => d + t
theorem told_away_ap (F : Days ds) {L : D} (hL : L = .lst (ds.map .int) ∨ L = .tup (ds.map .int)) (t : Int) (h : R (intsD (awayI ds (plainB ds t))) W) : c_told_away [L, .int t] W R E := by
  have f60 := F.len
  show sm_told_away [.v L, .v (.int t), .no] W (kS R E)
  unfold sm_told_away
  have key : ∀ (RL : List D → List MO → Prop), RL ((plainB ds t).map .int) W → compM (gN 2) bYes (e2 dAdd (eName 2) (eName 1)) [.v L, .v (.int t), .no] (ds.map .int) W RL (fun _ _ => False) := fun RL hR => by
    refine compM_map1 (g := fun d => match d with | .int a => .int (a + t) | d => d) (fun d hd => ?_) ?_
    · obtain ⟨a, _, rfl⟩ := List.mem_map.mp hd
      refine ⟨_, rfl, fun W R E h => ?_⟩
      simp only [ret_ap, bnd_ap, ask_ap, fail_ap, noE_ap, eName_ap, eOwn_ap, eC_ap, e1_ap, e2_ap, e2g_ap, e3_ap, tst_ap, bAnd_ap, bOr_ap, bNot_ap, bYes_ap, vAnd_ap, vOr_ap, vNot_ap, tru_ap, eIf_ap, aNil_ap, aCons_ap, aStar_ap, eTup_ap, eLst_ap, eTupS_ap, eLstS_ap, eCall_ap, eRef_ap, eIsi_ap, eIsi2_ap, iSeq_ap, iEn_ap, iR1_ap, iR2_ap, iR3_ap, eLc_ap, sNil_ap, sSeq_ap, sFrz_ap, sExpr_ap, sRet_ap, sAsg_ap, sOwn_ap, sIf_ap, sFor_ap, sAug_ap, sApp_ap, sExt_ap, sRaise_ap, gN_ap, gT_ap, gsC_ap, gs0_ap, sq_rt, sq_ex, sq_bk, sq_ct, lp_rt, lp_ex, lp_bk, lp_ct, lp_nx, kS_rt, kS_ex, kS_nx, List.getElem?_cons_zero, List.getElem?_cons_succ, List.set_cons_zero, List.set_cons_succ, Option.bind_some, dLen_lst, dLen_tup, dLen_dct, dLen_str, dAdd_ii, dAdd_ss, dAdd_ll, dAdd_tt, dSub_ii, dMul_ii, dMul_li, dFdiv_ii, dMod_ii, dPow_ii, dNeg_i, dCmp_ii, dSum_l, dAll_l, dAny_l, dAbs_i, dInt_i, dInt_b, dList_l, dList_t, dTuple_l, dTuple_t, dMax2_ii, dMin2_ii, dAddI_ii, dRev_l, dIx_l, dIx_t, dIx_d, orFail_some, orFail_none, tru_non, ty_non, tru_bl, ty_bl, tru_int, ty_int, tru_str, ty_str, tru_lst, ty_lst, tru_tup, ty_tup, tru_dct, ty_dct, its_lst, items_lst, its_tup, items_tup, isL_l, dIsN, dNotN, if_true, if_false, Bool.not_true, Bool.not_false, true_and, and_true, wipeE, isTy_NoneType_bool, isTy_NoneType_int, isTy_NoneType_str, isTy_NoneType_list, isTy_NoneType_tuple, isTy_NoneType_dict, isTy_bool_bool, isTy_bool_int, isTy_bool_str, isTy_bool_list, isTy_bool_tuple, isTy_bool_dict, isTy_int_bool, isTy_int_int, isTy_int_str, isTy_int_list, isTy_int_tuple, isTy_int_dict, isTy_str_bool, isTy_str_int, isTy_str_str, isTy_str_list, isTy_str_tuple, isTy_str_dict, isTy_list_bool, isTy_list_int, isTy_list_str, isTy_list_list, isTy_list_tuple, isTy_list_dict, isTy_tuple_bool, isTy_tuple_int, isTy_tuple_str, isTy_tuple_list, isTy_tuple_tuple, isTy_tuple_dict, isTy_dict_bool, isTy_dict_int, isTy_dict_str, isTy_dict_list, isTy_dict_tuple, isTy_dict_dict, sMulti_ap, giveE, eSl_ap, pN_ap, pS_ap, dSl_l, dSl_t, isN_non, isN_bl, isN_int, isN_str, isN_lst, isN_tup, isN_dct, isN_fn, isN_row, Bool.or_true, Bool.or_false, Bool.true_or, Bool.false_or, reduceCtorEq, eq_self, ↓reduceIte]
      exact h
    · unfold plainB at hR
      rw [List.map_map] at hR ⊢
      exact hR
  rcases hL with rfl | rfl <;>
  · simp only [ret_ap, bnd_ap, ask_ap, fail_ap, noE_ap, eName_ap, eOwn_ap, eC_ap, e1_ap, e2_ap, e2g_ap, e3_ap, tst_ap, bAnd_ap, bOr_ap, bNot_ap, bYes_ap, vAnd_ap, vOr_ap, vNot_ap, tru_ap, eIf_ap, aNil_ap, aCons_ap, aStar_ap, eTup_ap, eLst_ap, eTupS_ap, eLstS_ap, eCall_ap, eRef_ap, eIsi_ap, eIsi2_ap, iSeq_ap, iEn_ap, iR1_ap, iR2_ap, iR3_ap, eLc_ap, sNil_ap, sSeq_ap, sFrz_ap, sExpr_ap, sRet_ap, sAsg_ap, sOwn_ap, sIf_ap, sFor_ap, sAug_ap, sApp_ap, sExt_ap, sRaise_ap, gN_ap, gT_ap, gsC_ap, gs0_ap, sq_rt, sq_ex, sq_bk, sq_ct, lp_rt, lp_ex, lp_bk, lp_ct, lp_nx, kS_rt, kS_ex, kS_nx, List.getElem?_cons_zero, List.getElem?_cons_succ, List.set_cons_zero, List.set_cons_succ, Option.bind_some, dLen_lst, dLen_tup, dLen_dct, dLen_str, dAdd_ii, dAdd_ss, dAdd_ll, dAdd_tt, dSub_ii, dMul_ii, dMul_li, dFdiv_ii, dMod_ii, dPow_ii, dNeg_i, dCmp_ii, dSum_l, dAll_l, dAny_l, dAbs_i, dInt_i, dInt_b, dList_l, dList_t, dTuple_l, dTuple_t, dMax2_ii, dMin2_ii, dAddI_ii, dRev_l, dIx_l, dIx_t, dIx_d, orFail_some, orFail_none, tru_non, ty_non, tru_bl, ty_bl, tru_int, ty_int, tru_str, ty_str, tru_lst, ty_lst, tru_tup, ty_tup, tru_dct, ty_dct, its_lst, items_lst, its_tup, items_tup, isL_l, dIsN, dNotN, if_true, if_false, Bool.not_true, Bool.not_false, true_and, and_true, wipeE, isTy_NoneType_bool, isTy_NoneType_int, isTy_NoneType_str, isTy_NoneType_list, isTy_NoneType_tuple, isTy_NoneType_dict, isTy_bool_bool, isTy_bool_int, isTy_bool_str, isTy_bool_list, isTy_bool_tuple, isTy_bool_dict, isTy_int_bool, isTy_int_int, isTy_int_str, isTy_int_list, isTy_int_tuple, isTy_int_dict, isTy_str_bool, isTy_str_int, isTy_str_str, isTy_str_list, isTy_str_tuple, isTy_str_dict, isTy_list_bool, isTy_list_int, isTy_list_str, isTy_list_list, isTy_list_tuple, isTy_list_dict, isTy_tuple_bool, isTy_tuple_int, isTy_tuple_str, isTy_tuple_list, isTy_tuple_tuple, isTy_tuple_dict, isTy_dict_bool, isTy_dict_int, isTy_dict_str, isTy_dict_list, isTy_dict_tuple, isTy_dict_dict, sMulti_ap, giveE, eSl_ap, pN_ap, pS_ap, dSl_l, dSl_t, isN_non, isN_bl, isN_int, isN_str, isN_lst, isN_tup, isN_dct, isN_fn, isN_row, Bool.or_true, Bool.or_false, Bool.true_or, Bool.false_or, reduceCtorEq, eq_self, ↓reduceIte]
    refine key _ ?_
    exact away_ap F (by first | exact .inl rfl | exact .inr rfl) (plainB ds t) (by unfold plainB; rw [List.length_map]; omega) h
theorem within_turn {t : Int} (h1 : 1 ≤ t) (h2 : t ≤ 1000) : D.within 1 1000 (.int t) = true := by
  show (decide (1 ≤ t) && decide (t ≤ 1000)) = true
  rw [decide_eq_true h1, decide_eq_true h2]
  rfl
theorem days_fine (F : Days ds) {L : D} (hL : L = .lst (ds.map .int) ∨ L = .tup (ds.map .int)) {t : Int} (h1 : 1 ≤ t) (h2 : t ≤ 1000) (h : R .non W) : c_check_days [L, .int t] W R E :=
  days_ok F hL rfl (fun _ => h) fun z => by rw [within_turn h1 h2] at z; cases z
theorem spares_needed_ap (F : Days ds) {L : D} (hL : L = .lst (ds.map .int) ∨ L = .tup (ds.map .int)) {t : Int} (h1 : 1 ≤ t) (h2 : t ≤ 1000) (h : R (.int (max0 (awayI ds (plainB ds t)))) W) : c_spares_needed [L, .int t] W R E := by
  show sm_spares_needed [.v L, .v (.int t)] W (kS R E)
  unfold sm_spares_needed
  simp only [ret_ap, bnd_ap, ask_ap, fail_ap, noE_ap, eName_ap, eOwn_ap, eC_ap, e1_ap, e2_ap, e2g_ap, e3_ap, tst_ap, bAnd_ap, bOr_ap, bNot_ap, bYes_ap, vAnd_ap, vOr_ap, vNot_ap, tru_ap, eIf_ap, aNil_ap, aCons_ap, aStar_ap, eTup_ap, eLst_ap, eTupS_ap, eLstS_ap, eCall_ap, eRef_ap, eIsi_ap, eIsi2_ap, iSeq_ap, iEn_ap, iR1_ap, iR2_ap, iR3_ap, eLc_ap, sNil_ap, sSeq_ap, sFrz_ap, sExpr_ap, sRet_ap, sAsg_ap, sOwn_ap, sIf_ap, sFor_ap, sAug_ap, sApp_ap, sExt_ap, sRaise_ap, gN_ap, gT_ap, gsC_ap, gs0_ap, sq_rt, sq_ex, sq_bk, sq_ct, lp_rt, lp_ex, lp_bk, lp_ct, lp_nx, kS_rt, kS_ex, kS_nx, List.getElem?_cons_zero, List.getElem?_cons_succ, List.set_cons_zero, List.set_cons_succ, Option.bind_some, dLen_lst, dLen_tup, dLen_dct, dLen_str, dAdd_ii, dAdd_ss, dAdd_ll, dAdd_tt, dSub_ii, dMul_ii, dMul_li, dFdiv_ii, dMod_ii, dPow_ii, dNeg_i, dCmp_ii, dSum_l, dAll_l, dAny_l, dAbs_i, dInt_i, dInt_b, dList_l, dList_t, dTuple_l, dTuple_t, dMax2_ii, dMin2_ii, dAddI_ii, dRev_l, dIx_l, dIx_t, dIx_d, orFail_some, orFail_none, tru_non, ty_non, tru_bl, ty_bl, tru_int, ty_int, tru_str, ty_str, tru_lst, ty_lst, tru_tup, ty_tup, tru_dct, ty_dct, its_lst, items_lst, its_tup, items_tup, isL_l, dIsN, dNotN, if_true, if_false, Bool.not_true, Bool.not_false, true_and, and_true, wipeE, isTy_NoneType_bool, isTy_NoneType_int, isTy_NoneType_str, isTy_NoneType_list, isTy_NoneType_tuple, isTy_NoneType_dict, isTy_bool_bool, isTy_bool_int, isTy_bool_str, isTy_bool_list, isTy_bool_tuple, isTy_bool_dict, isTy_int_bool, isTy_int_int, isTy_int_str, isTy_int_list, isTy_int_tuple, isTy_int_dict, isTy_str_bool, isTy_str_int, isTy_str_str, isTy_str_list, isTy_str_tuple, isTy_str_dict, isTy_list_bool, isTy_list_int, isTy_list_str, isTy_list_list, isTy_list_tuple, isTy_list_dict, isTy_tuple_bool, isTy_tuple_int, isTy_tuple_str, isTy_tuple_list, isTy_tuple_tuple, isTy_tuple_dict, isTy_dict_bool, isTy_dict_int, isTy_dict_str, isTy_dict_list, isTy_dict_tuple, isTy_dict_dict, sMulti_ap, giveE, eSl_ap, pN_ap, pS_ap, dSl_l, dSl_t, isN_non, isN_bl, isN_int, isN_str, isN_lst, isN_tup, isN_dct, isN_fn, isN_row, Bool.or_true, Bool.or_false, Bool.true_or, Bool.false_or, reduceCtorEq, eq_self, ↓reduceIte]
  refine days_fine F hL h1 h2 ?_
  simp only [ret_ap, bnd_ap, ask_ap, fail_ap, noE_ap, eName_ap, eOwn_ap, eC_ap, e1_ap, e2_ap, e2g_ap, e3_ap, tst_ap, bAnd_ap, bOr_ap, bNot_ap, bYes_ap, vAnd_ap, vOr_ap, vNot_ap, tru_ap, eIf_ap, aNil_ap, aCons_ap, aStar_ap, eTup_ap, eLst_ap, eTupS_ap, eLstS_ap, eCall_ap, eRef_ap, eIsi_ap, eIsi2_ap, iSeq_ap, iEn_ap, iR1_ap, iR2_ap, iR3_ap, eLc_ap, sNil_ap, sSeq_ap, sFrz_ap, sExpr_ap, sRet_ap, sAsg_ap, sOwn_ap, sIf_ap, sFor_ap, sAug_ap, sApp_ap, sExt_ap, sRaise_ap, gN_ap, gT_ap, gsC_ap, gs0_ap, sq_rt, sq_ex, sq_bk, sq_ct, lp_rt, lp_ex, lp_bk, lp_ct, lp_nx, kS_rt, kS_ex, kS_nx, List.getElem?_cons_zero, List.getElem?_cons_succ, List.set_cons_zero, List.set_cons_succ, Option.bind_some, dLen_lst, dLen_tup, dLen_dct, dLen_str, dAdd_ii, dAdd_ss, dAdd_ll, dAdd_tt, dSub_ii, dMul_ii, dMul_li, dFdiv_ii, dMod_ii, dPow_ii, dNeg_i, dCmp_ii, dSum_l, dAll_l, dAny_l, dAbs_i, dInt_i, dInt_b, dList_l, dList_t, dTuple_l, dTuple_t, dMax2_ii, dMin2_ii, dAddI_ii, dRev_l, dIx_l, dIx_t, dIx_d, orFail_some, orFail_none, tru_non, ty_non, tru_bl, ty_bl, tru_int, ty_int, tru_str, ty_str, tru_lst, ty_lst, tru_tup, ty_tup, tru_dct, ty_dct, its_lst, items_lst, its_tup, items_tup, isL_l, dIsN, dNotN, if_true, if_false, Bool.not_true, Bool.not_false, true_and, and_true, wipeE, isTy_NoneType_bool, isTy_NoneType_int, isTy_NoneType_str, isTy_NoneType_list, isTy_NoneType_tuple, isTy_NoneType_dict, isTy_bool_bool, isTy_bool_int, isTy_bool_str, isTy_bool_list, isTy_bool_tuple, isTy_bool_dict, isTy_int_bool, isTy_int_int, isTy_int_str, isTy_int_list, isTy_int_tuple, isTy_int_dict, isTy_str_bool, isTy_str_int, isTy_str_str, isTy_str_list, isTy_str_tuple, isTy_str_dict, isTy_list_bool, isTy_list_int, isTy_list_str, isTy_list_list, isTy_list_tuple, isTy_list_dict, isTy_tuple_bool, isTy_tuple_int, isTy_tuple_str, isTy_tuple_list, isTy_tuple_tuple, isTy_tuple_dict, isTy_dict_bool, isTy_dict_int, isTy_dict_str, isTy_dict_list, isTy_dict_tuple, isTy_dict_dict, sMulti_ap, giveE, eSl_ap, pN_ap, pS_ap, dSl_l, dSl_t, isN_non, isN_bl, isN_int, isN_str, isN_lst, isN_tup, isN_dct, isN_fn, isN_row, Bool.or_true, Bool.or_false, Bool.true_or, Bool.false_or, reduceCtorEq, eq_self, ↓reduceIte, sq_nx]
  refine told_away_ap F hL t ?_
  simp only [ret_ap, bnd_ap, ask_ap, fail_ap, noE_ap, eName_ap, eOwn_ap, eC_ap, e1_ap, e2_ap, e2g_ap, e3_ap, tst_ap, bAnd_ap, bOr_ap, bNot_ap, bYes_ap, vAnd_ap, vOr_ap, vNot_ap, tru_ap, eIf_ap, aNil_ap, aCons_ap, aStar_ap, eTup_ap, eLst_ap, eTupS_ap, eLstS_ap, eCall_ap, eRef_ap, eIsi_ap, eIsi2_ap, iSeq_ap, iEn_ap, iR1_ap, iR2_ap, iR3_ap, eLc_ap, sNil_ap, sSeq_ap, sFrz_ap, sExpr_ap, sRet_ap, sAsg_ap, sOwn_ap, sIf_ap, sFor_ap, sAug_ap, sApp_ap, sExt_ap, sRaise_ap, gN_ap, gT_ap, gsC_ap, gs0_ap, sq_rt, sq_ex, sq_bk, sq_ct, lp_rt, lp_ex, lp_bk, lp_ct, lp_nx, kS_rt, kS_ex, kS_nx, List.getElem?_cons_zero, List.getElem?_cons_succ, List.set_cons_zero, List.set_cons_succ, Option.bind_some, dLen_lst, dLen_tup, dLen_dct, dLen_str, dAdd_ii, dAdd_ss, dAdd_ll, dAdd_tt, dSub_ii, dMul_ii, dMul_li, dFdiv_ii, dMod_ii, dPow_ii, dNeg_i, dCmp_ii, dSum_l, dAll_l, dAny_l, dAbs_i, dInt_i, dInt_b, dList_l, dList_t, dTuple_l, dTuple_t, dMax2_ii, dMin2_ii, dAddI_ii, dRev_l, dIx_l, dIx_t, dIx_d, orFail_some, orFail_none, tru_non, ty_non, tru_bl, ty_bl, tru_int, ty_int, tru_str, ty_str, tru_lst, ty_lst, tru_tup, ty_tup, tru_dct, ty_dct, its_lst, items_lst, its_tup, items_tup, isL_l, dIsN, dNotN, if_true, if_false, Bool.not_true, Bool.not_false, true_and, and_true, wipeE, isTy_NoneType_bool, isTy_NoneType_int, isTy_NoneType_str, isTy_NoneType_list, isTy_NoneType_tuple, isTy_NoneType_dict, isTy_bool_bool, isTy_bool_int, isTy_bool_str, isTy_bool_list, isTy_bool_tuple, isTy_bool_dict, isTy_int_bool, isTy_int_int, isTy_int_str, isTy_int_list, isTy_int_tuple, isTy_int_dict, isTy_str_bool, isTy_str_int, isTy_str_str, isTy_str_list, isTy_str_tuple, isTy_str_dict, isTy_list_bool, isTy_list_int, isTy_list_str, isTy_list_list, isTy_list_tuple, isTy_list_dict, isTy_tuple_bool, isTy_tuple_int, isTy_tuple_str, isTy_tuple_list, isTy_tuple_tuple, isTy_tuple_dict, isTy_dict_bool, isTy_dict_int, isTy_dict_str, isTy_dict_list, isTy_dict_tuple, isTy_dict_dict, sMulti_ap, giveE, eSl_ap, pN_ap, pS_ap, dSl_l, dSl_t, isN_non, isN_bl, isN_int, isN_str, isN_lst, isN_tup, isN_dct, isN_fn, isN_row, Bool.or_true, Bool.or_false, Bool.true_or, Bool.false_or, reduceCtorEq, eq_self, ↓reduceIte, dMax0_ints]
  exact h
/-- the first i at which more are away than spares -/
def firstOver (aw : List Int) (s : Int) : D := match aw.findIdx? (fun a => decide (s < a)) with
  | some i => .int (i : Nat)
  | none => .non
theorem first_without_ap (F : Days ds) {L : D} (hL : L = .lst (ds.map .int) ∨ L = .tup (ds.map .int)) {t : Int} (h1 : 1 ≤ t) (h2 : t ≤ 1000) {s : Int} (hs : 0 ≤ s) (hs2 : s ≤ 60) (h : R (firstOver (awayI ds (plainB ds t)) s) W) : c_first_without [L, .int t, .int s] W R E := by
  show sm_first_without [.v L, .v (.int t), .v (.int s), .no, .no] W (kS R E)
  unfold sm_first_without
  simp only [ret_ap, bnd_ap, ask_ap, fail_ap, noE_ap, eName_ap, eOwn_ap, eC_ap, e1_ap, e2_ap, e2g_ap, e3_ap, tst_ap, bAnd_ap, bOr_ap, bNot_ap, bYes_ap, vAnd_ap, vOr_ap, vNot_ap, tru_ap, eIf_ap, aNil_ap, aCons_ap, aStar_ap, eTup_ap, eLst_ap, eTupS_ap, eLstS_ap, eCall_ap, eRef_ap, eIsi_ap, eIsi2_ap, iSeq_ap, iEn_ap, iR1_ap, iR2_ap, iR3_ap, eLc_ap, sNil_ap, sSeq_ap, sFrz_ap, sExpr_ap, sRet_ap, sAsg_ap, sOwn_ap, sIf_ap, sFor_ap, sAug_ap, sApp_ap, sExt_ap, sRaise_ap, gN_ap, gT_ap, gsC_ap, gs0_ap, sq_rt, sq_ex, sq_bk, sq_ct, lp_rt, lp_ex, lp_bk, lp_ct, lp_nx, kS_rt, kS_ex, kS_nx, List.getElem?_cons_zero, List.getElem?_cons_succ, List.set_cons_zero, List.set_cons_succ, Option.bind_some, dLen_lst, dLen_tup, dLen_dct, dLen_str, dAdd_ii, dAdd_ss, dAdd_ll, dAdd_tt, dSub_ii, dMul_ii, dMul_li, dFdiv_ii, dMod_ii, dPow_ii, dNeg_i, dCmp_ii, dSum_l, dAll_l, dAny_l, dAbs_i, dInt_i, dInt_b, dList_l, dList_t, dTuple_l, dTuple_t, dMax2_ii, dMin2_ii, dAddI_ii, dRev_l, dIx_l, dIx_t, dIx_d, orFail_some, orFail_none, tru_non, ty_non, tru_bl, ty_bl, tru_int, ty_int, tru_str, ty_str, tru_lst, ty_lst, tru_tup, ty_tup, tru_dct, ty_dct, its_lst, items_lst, its_tup, items_tup, isL_l, dIsN, dNotN, if_true, if_false, Bool.not_true, Bool.not_false, true_and, and_true, wipeE, isTy_NoneType_bool, isTy_NoneType_int, isTy_NoneType_str, isTy_NoneType_list, isTy_NoneType_tuple, isTy_NoneType_dict, isTy_bool_bool, isTy_bool_int, isTy_bool_str, isTy_bool_list, isTy_bool_tuple, isTy_bool_dict, isTy_int_bool, isTy_int_int, isTy_int_str, isTy_int_list, isTy_int_tuple, isTy_int_dict, isTy_str_bool, isTy_str_int, isTy_str_str, isTy_str_list, isTy_str_tuple, isTy_str_dict, isTy_list_bool, isTy_list_int, isTy_list_str, isTy_list_list, isTy_list_tuple, isTy_list_dict, isTy_tuple_bool, isTy_tuple_int, isTy_tuple_str, isTy_tuple_list, isTy_tuple_tuple, isTy_tuple_dict, isTy_dict_bool, isTy_dict_int, isTy_dict_str, isTy_dict_list, isTy_dict_tuple, isTy_dict_dict, sMulti_ap, giveE, eSl_ap, pN_ap, pS_ap, dSl_l, dSl_t, isN_non, isN_bl, isN_int, isN_str, isN_lst, isN_tup, isN_dct, isN_fn, isN_row, Bool.or_true, Bool.or_false, Bool.true_or, Bool.false_or, reduceCtorEq, eq_self, ↓reduceIte]
  refine days_fine F hL h1 h2 ?_
  have ew : D.within 0 60 (.int s) = true := by
    show (decide (0 ≤ s) && decide (s ≤ 60)) = true
    rw [decide_eq_true hs, decide_eq_true hs2]
    rfl
  simp only [ret_ap, bnd_ap, ask_ap, fail_ap, noE_ap, eName_ap, eOwn_ap, eC_ap, e1_ap, e2_ap, e2g_ap, e3_ap, tst_ap, bAnd_ap, bOr_ap, bNot_ap, bYes_ap, vAnd_ap, vOr_ap, vNot_ap, tru_ap, eIf_ap, aNil_ap, aCons_ap, aStar_ap, eTup_ap, eLst_ap, eTupS_ap, eLstS_ap, eCall_ap, eRef_ap, eIsi_ap, eIsi2_ap, iSeq_ap, iEn_ap, iR1_ap, iR2_ap, iR3_ap, eLc_ap, sNil_ap, sSeq_ap, sFrz_ap, sExpr_ap, sRet_ap, sAsg_ap, sOwn_ap, sIf_ap, sFor_ap, sAug_ap, sApp_ap, sExt_ap, sRaise_ap, gN_ap, gT_ap, gsC_ap, gs0_ap, sq_rt, sq_ex, sq_bk, sq_ct, lp_rt, lp_ex, lp_bk, lp_ct, lp_nx, kS_rt, kS_ex, kS_nx, List.getElem?_cons_zero, List.getElem?_cons_succ, List.set_cons_zero, List.set_cons_succ, Option.bind_some, dLen_lst, dLen_tup, dLen_dct, dLen_str, dAdd_ii, dAdd_ss, dAdd_ll, dAdd_tt, dSub_ii, dMul_ii, dMul_li, dFdiv_ii, dMod_ii, dPow_ii, dNeg_i, dCmp_ii, dSum_l, dAll_l, dAny_l, dAbs_i, dInt_i, dInt_b, dList_l, dList_t, dTuple_l, dTuple_t, dMax2_ii, dMin2_ii, dAddI_ii, dRev_l, dIx_l, dIx_t, dIx_d, orFail_some, orFail_none, tru_non, ty_non, tru_bl, ty_bl, tru_int, ty_int, tru_str, ty_str, tru_lst, ty_lst, tru_tup, ty_tup, tru_dct, ty_dct, its_lst, items_lst, its_tup, items_tup, isL_l, dIsN, dNotN, if_true, if_false, Bool.not_true, Bool.not_false, true_and, and_true, wipeE, isTy_NoneType_bool, isTy_NoneType_int, isTy_NoneType_str, isTy_NoneType_list, isTy_NoneType_tuple, isTy_NoneType_dict, isTy_bool_bool, isTy_bool_int, isTy_bool_str, isTy_bool_list, isTy_bool_tuple, isTy_bool_dict, isTy_int_bool, isTy_int_int, isTy_int_str, isTy_int_list, isTy_int_tuple, isTy_int_dict, isTy_str_bool, isTy_str_int, isTy_str_str, isTy_str_list, isTy_str_tuple, isTy_str_dict, isTy_list_bool, isTy_list_int, isTy_list_str, isTy_list_list, isTy_list_tuple, isTy_list_dict, isTy_tuple_bool, isTy_tuple_int, isTy_tuple_str, isTy_tuple_list, isTy_tuple_tuple, isTy_tuple_dict, isTy_dict_bool, isTy_dict_int, isTy_dict_str, isTy_dict_list, isTy_dict_tuple, isTy_dict_dict, sMulti_ap, giveE, eSl_ap, pN_ap, pS_ap, dSl_l, dSl_t, isN_non, isN_bl, isN_int, isN_str, isN_lst, isN_tup, isN_dct, isN_fn, isN_row, Bool.or_true, Bool.or_false, Bool.true_or, Bool.false_or, reduceCtorEq, eq_self, ↓reduceIte, sq_nx, is_within_ap (.int s) 0 60 rfl, ew]
  refine told_away_ap F hL t ?_
  simp only [ret_ap, bnd_ap, ask_ap, fail_ap, noE_ap, eName_ap, eOwn_ap, eC_ap, e1_ap, e2_ap, e2g_ap, e3_ap, tst_ap, bAnd_ap, bOr_ap, bNot_ap, bYes_ap, vAnd_ap, vOr_ap, vNot_ap, tru_ap, eIf_ap, aNil_ap, aCons_ap, aStar_ap, eTup_ap, eLst_ap, eTupS_ap, eLstS_ap, eCall_ap, eRef_ap, eIsi_ap, eIsi2_ap, iSeq_ap, iEn_ap, iR1_ap, iR2_ap, iR3_ap, eLc_ap, sNil_ap, sSeq_ap, sFrz_ap, sExpr_ap, sRet_ap, sAsg_ap, sOwn_ap, sIf_ap, sFor_ap, sAug_ap, sApp_ap, sExt_ap, sRaise_ap, gN_ap, gT_ap, gsC_ap, gs0_ap, sq_rt, sq_ex, sq_bk, sq_ct, lp_rt, lp_ex, lp_bk, lp_ct, lp_nx, kS_rt, kS_ex, kS_nx, List.getElem?_cons_zero, List.getElem?_cons_succ, List.set_cons_zero, List.set_cons_succ, Option.bind_some, dLen_lst, dLen_tup, dLen_dct, dLen_str, dAdd_ii, dAdd_ss, dAdd_ll, dAdd_tt, dSub_ii, dMul_ii, dMul_li, dFdiv_ii, dMod_ii, dPow_ii, dNeg_i, dCmp_ii, dSum_l, dAll_l, dAny_l, dAbs_i, dInt_i, dInt_b, dList_l, dList_t, dTuple_l, dTuple_t, dMax2_ii, dMin2_ii, dAddI_ii, dRev_l, dIx_l, dIx_t, dIx_d, orFail_some, orFail_none, tru_non, ty_non, tru_bl, ty_bl, tru_int, ty_int, tru_str, ty_str, tru_lst, ty_lst, tru_tup, ty_tup, tru_dct, ty_dct, its_lst, items_lst, its_tup, items_tup, isL_l, dIsN, dNotN, if_true, if_false, Bool.not_true, Bool.not_false, true_and, and_true, wipeE, isTy_NoneType_bool, isTy_NoneType_int, isTy_NoneType_str, isTy_NoneType_list, isTy_NoneType_tuple, isTy_NoneType_dict, isTy_bool_bool, isTy_bool_int, isTy_bool_str, isTy_bool_list, isTy_bool_tuple, isTy_bool_dict, isTy_int_bool, isTy_int_int, isTy_int_str, isTy_int_list, isTy_int_tuple, isTy_int_dict, isTy_str_bool, isTy_str_int, isTy_str_str, isTy_str_list, isTy_str_tuple, isTy_str_dict, isTy_list_bool, isTy_list_int, isTy_list_str, isTy_list_list, isTy_list_tuple, isTy_list_dict, isTy_tuple_bool, isTy_tuple_int, isTy_tuple_str, isTy_tuple_list, isTy_tuple_tuple, isTy_tuple_dict, isTy_dict_bool, isTy_dict_int, isTy_dict_str, isTy_dict_list, isTy_dict_tuple, isTy_dict_dict, sMulti_ap, giveE, eSl_ap, pN_ap, pS_ap, dSl_l, dSl_t, isN_non, isN_bl, isN_int, isN_str, isN_lst, isN_tup, isN_dct, isN_fn, isN_row, Bool.or_true, Bool.or_false, Bool.true_or, Bool.false_or, reduceCtorEq, eq_self, ↓reduceIte]
  generalize awayI ds (plainB ds t) = aw at h
  refine forM_find (fun e => ∃ a b, e = [.v L, .v (.int t), .v (.int s), a, b]) (fun i _ => decide (s < aw.getD i 0)) (fun i _ => R (.int (i : Nat)) W) ⟨_, _, rfl⟩ ?_ ?_ ?_
  · rintro i d e P hd ⟨a, b, rfl⟩
    rw [enumD_get, List.getElem?_map] at hd
    cases q : aw[i]? with
    | none => rw [q] at hd; cases hd
    | some v =>
      rw [q] at hd
      cases hd
      have ev : aw.getD i 0 = v := by rw [List.getD_eq_getElem?_getD, q]; rfl
      rw [ev]
      refine ⟨_, rfl, fun hb ho => ?_, fun hb hP => ?_⟩
      · simp only [ret_ap, bnd_ap, ask_ap, fail_ap, noE_ap, eName_ap, eOwn_ap, eC_ap, e1_ap, e2_ap, e2g_ap, e3_ap, tst_ap, bAnd_ap, bOr_ap, bNot_ap, bYes_ap, vAnd_ap, vOr_ap, vNot_ap, tru_ap, eIf_ap, aNil_ap, aCons_ap, aStar_ap, eTup_ap, eLst_ap, eTupS_ap, eLstS_ap, eCall_ap, eRef_ap, eIsi_ap, eIsi2_ap, iSeq_ap, iEn_ap, iR1_ap, iR2_ap, iR3_ap, eLc_ap, sNil_ap, sSeq_ap, sFrz_ap, sExpr_ap, sRet_ap, sAsg_ap, sOwn_ap, sIf_ap, sFor_ap, sAug_ap, sApp_ap, sExt_ap, sRaise_ap, gN_ap, gT_ap, gsC_ap, gs0_ap, sq_rt, sq_ex, sq_bk, sq_ct, lp_rt, lp_ex, lp_bk, lp_ct, lp_nx, kS_rt, kS_ex, kS_nx, List.getElem?_cons_zero, List.getElem?_cons_succ, List.set_cons_zero, List.set_cons_succ, Option.bind_some, dLen_lst, dLen_tup, dLen_dct, dLen_str, dAdd_ii, dAdd_ss, dAdd_ll, dAdd_tt, dSub_ii, dMul_ii, dMul_li, dFdiv_ii, dMod_ii, dPow_ii, dNeg_i, dCmp_ii, dSum_l, dAll_l, dAny_l, dAbs_i, dInt_i, dInt_b, dList_l, dList_t, dTuple_l, dTuple_t, dMax2_ii, dMin2_ii, dAddI_ii, dRev_l, dIx_l, dIx_t, dIx_d, orFail_some, orFail_none, tru_non, ty_non, tru_bl, ty_bl, tru_int, ty_int, tru_str, ty_str, tru_lst, ty_lst, tru_tup, ty_tup, tru_dct, ty_dct, its_lst, items_lst, its_tup, items_tup, isL_l, dIsN, dNotN, if_true, if_false, Bool.not_true, Bool.not_false, true_and, and_true, wipeE, isTy_NoneType_bool, isTy_NoneType_int, isTy_NoneType_str, isTy_NoneType_list, isTy_NoneType_tuple, isTy_NoneType_dict, isTy_bool_bool, isTy_bool_int, isTy_bool_str, isTy_bool_list, isTy_bool_tuple, isTy_bool_dict, isTy_int_bool, isTy_int_int, isTy_int_str, isTy_int_list, isTy_int_tuple, isTy_int_dict, isTy_str_bool, isTy_str_int, isTy_str_str, isTy_str_list, isTy_str_tuple, isTy_str_dict, isTy_list_bool, isTy_list_int, isTy_list_str, isTy_list_list, isTy_list_tuple, isTy_list_dict, isTy_tuple_bool, isTy_tuple_int, isTy_tuple_str, isTy_tuple_list, isTy_tuple_tuple, isTy_tuple_dict, isTy_dict_bool, isTy_dict_int, isTy_dict_str, isTy_dict_list, isTy_dict_tuple, isTy_dict_dict, sMulti_ap, giveE, eSl_ap, pN_ap, pS_ap, dSl_l, dSl_t, isN_non, isN_bl, isN_int, isN_str, isN_lst, isN_tup, isN_dct, isN_fn, isN_row, Bool.or_true, Bool.or_false, Bool.true_or, Bool.false_or, reduceCtorEq, eq_self, ↓reduceIte, hb]
        exact ho
      · simp only [ret_ap, bnd_ap, ask_ap, fail_ap, noE_ap, eName_ap, eOwn_ap, eC_ap, e1_ap, e2_ap, e2g_ap, e3_ap, tst_ap, bAnd_ap, bOr_ap, bNot_ap, bYes_ap, vAnd_ap, vOr_ap, vNot_ap, tru_ap, eIf_ap, aNil_ap, aCons_ap, aStar_ap, eTup_ap, eLst_ap, eTupS_ap, eLstS_ap, eCall_ap, eRef_ap, eIsi_ap, eIsi2_ap, iSeq_ap, iEn_ap, iR1_ap, iR2_ap, iR3_ap, eLc_ap, sNil_ap, sSeq_ap, sFrz_ap, sExpr_ap, sRet_ap, sAsg_ap, sOwn_ap, sIf_ap, sFor_ap, sAug_ap, sApp_ap, sExt_ap, sRaise_ap, gN_ap, gT_ap, gsC_ap, gs0_ap, sq_rt, sq_ex, sq_bk, sq_ct, lp_rt, lp_ex, lp_bk, lp_ct, lp_nx, kS_rt, kS_ex, kS_nx, List.getElem?_cons_zero, List.getElem?_cons_succ, List.set_cons_zero, List.set_cons_succ, Option.bind_some, dLen_lst, dLen_tup, dLen_dct, dLen_str, dAdd_ii, dAdd_ss, dAdd_ll, dAdd_tt, dSub_ii, dMul_ii, dMul_li, dFdiv_ii, dMod_ii, dPow_ii, dNeg_i, dCmp_ii, dSum_l, dAll_l, dAny_l, dAbs_i, dInt_i, dInt_b, dList_l, dList_t, dTuple_l, dTuple_t, dMax2_ii, dMin2_ii, dAddI_ii, dRev_l, dIx_l, dIx_t, dIx_d, orFail_some, orFail_none, tru_non, ty_non, tru_bl, ty_bl, tru_int, ty_int, tru_str, ty_str, tru_lst, ty_lst, tru_tup, ty_tup, tru_dct, ty_dct, its_lst, items_lst, its_tup, items_tup, isL_l, dIsN, dNotN, if_true, if_false, Bool.not_true, Bool.not_false, true_and, and_true, wipeE, isTy_NoneType_bool, isTy_NoneType_int, isTy_NoneType_str, isTy_NoneType_list, isTy_NoneType_tuple, isTy_NoneType_dict, isTy_bool_bool, isTy_bool_int, isTy_bool_str, isTy_bool_list, isTy_bool_tuple, isTy_bool_dict, isTy_int_bool, isTy_int_int, isTy_int_str, isTy_int_list, isTy_int_tuple, isTy_int_dict, isTy_str_bool, isTy_str_int, isTy_str_str, isTy_str_list, isTy_str_tuple, isTy_str_dict, isTy_list_bool, isTy_list_int, isTy_list_str, isTy_list_list, isTy_list_tuple, isTy_list_dict, isTy_tuple_bool, isTy_tuple_int, isTy_tuple_str, isTy_tuple_list, isTy_tuple_tuple, isTy_tuple_dict, isTy_dict_bool, isTy_dict_int, isTy_dict_str, isTy_dict_list, isTy_dict_tuple, isTy_dict_dict, sMulti_ap, giveE, eSl_ap, pN_ap, pS_ap, dSl_l, dSl_t, isN_non, isN_bl, isN_int, isN_str, isN_lst, isN_tup, isN_dct, isN_fn, isN_row, Bool.or_true, Bool.or_false, Bool.true_or, Bool.false_or, reduceCtorEq, eq_self, ↓reduceIte, hb]
        exact hP _ ⟨_, _, rfl⟩
  · rintro hb e ⟨a, b, rfl⟩
    have e : aw.findIdx? (fun a => decide (s < a)) = none := List.findIdx?_eq_none_iff.mpr fun x hx => by
      obtain ⟨i, hi⟩ := List.mem_iff_getElem?.mp hx
      have := hb i _ (by rw [enumD_get, List.getElem?_map, hi]; rfl)
      rw [List.getD_eq_getElem?_getD, hi] at this
      exact this
    simp only [ret_ap, bnd_ap, ask_ap, fail_ap, noE_ap, eName_ap, eOwn_ap, eC_ap, e1_ap, e2_ap, e2g_ap, e3_ap, tst_ap, bAnd_ap, bOr_ap, bNot_ap, bYes_ap, vAnd_ap, vOr_ap, vNot_ap, tru_ap, eIf_ap, aNil_ap, aCons_ap, aStar_ap, eTup_ap, eLst_ap, eTupS_ap, eLstS_ap, eCall_ap, eRef_ap, eIsi_ap, eIsi2_ap, iSeq_ap, iEn_ap, iR1_ap, iR2_ap, iR3_ap, eLc_ap, sNil_ap, sSeq_ap, sFrz_ap, sExpr_ap, sRet_ap, sAsg_ap, sOwn_ap, sIf_ap, sFor_ap, sAug_ap, sApp_ap, sExt_ap, sRaise_ap, gN_ap, gT_ap, gsC_ap, gs0_ap, sq_rt, sq_ex, sq_bk, sq_ct, lp_rt, lp_ex, lp_bk, lp_ct, lp_nx, kS_rt, kS_ex, kS_nx, List.getElem?_cons_zero, List.getElem?_cons_succ, List.set_cons_zero, List.set_cons_succ, Option.bind_some, dLen_lst, dLen_tup, dLen_dct, dLen_str, dAdd_ii, dAdd_ss, dAdd_ll, dAdd_tt, dSub_ii, dMul_ii, dMul_li, dFdiv_ii, dMod_ii, dPow_ii, dNeg_i, dCmp_ii, dSum_l, dAll_l, dAny_l, dAbs_i, dInt_i, dInt_b, dList_l, dList_t, dTuple_l, dTuple_t, dMax2_ii, dMin2_ii, dAddI_ii, dRev_l, dIx_l, dIx_t, dIx_d, orFail_some, orFail_none, tru_non, ty_non, tru_bl, ty_bl, tru_int, ty_int, tru_str, ty_str, tru_lst, ty_lst, tru_tup, ty_tup, tru_dct, ty_dct, its_lst, items_lst, its_tup, items_tup, isL_l, dIsN, dNotN, if_true, if_false, Bool.not_true, Bool.not_false, true_and, and_true, wipeE, isTy_NoneType_bool, isTy_NoneType_int, isTy_NoneType_str, isTy_NoneType_list, isTy_NoneType_tuple, isTy_NoneType_dict, isTy_bool_bool, isTy_bool_int, isTy_bool_str, isTy_bool_list, isTy_bool_tuple, isTy_bool_dict, isTy_int_bool, isTy_int_int, isTy_int_str, isTy_int_list, isTy_int_tuple, isTy_int_dict, isTy_str_bool, isTy_str_int, isTy_str_str, isTy_str_list, isTy_str_tuple, isTy_str_dict, isTy_list_bool, isTy_list_int, isTy_list_str, isTy_list_list, isTy_list_tuple, isTy_list_dict, isTy_tuple_bool, isTy_tuple_int, isTy_tuple_str, isTy_tuple_list, isTy_tuple_tuple, isTy_tuple_dict, isTy_dict_bool, isTy_dict_int, isTy_dict_str, isTy_dict_list, isTy_dict_tuple, isTy_dict_dict, sMulti_ap, giveE, eSl_ap, pN_ap, pS_ap, dSl_l, dSl_t, isN_non, isN_bl, isN_int, isN_str, isN_lst, isN_tup, isN_dct, isN_fn, isN_row, Bool.or_true, Bool.or_false, Bool.true_or, Bool.false_or, reduceCtorEq, eq_self, ↓reduceIte, sq_nx]
    unfold firstOver at h
    rw [e] at h
    exact h
  · intro i d hd hb hj
    rw [enumD_get, List.getElem?_map] at hd
    cases q : aw[i]? with
    | none => rw [q] at hd; cases hd
    | some v =>
      obtain ⟨hlt, hv⟩ := List.getElem?_eq_some_iff.mp q
      have e : aw.findIdx? (fun a => decide (s < a)) = some i := by
        rw [List.findIdx?_eq_some_iff_getElem]
        rw [List.getD_eq_getElem?_getD, q] at hb
        refine ⟨hlt, by rw [hv]; exact hb, fun j hji => ?_⟩
        have hj2 : aw[j]? = some aw[j] := List.getElem?_eq_getElem (by omega)
        have := hj j _ hji (by rw [enumD_get, List.getElem?_map, hj2]; rfl)
        rw [List.getD_eq_getElem?_getD, hj2] at this
        have this : decide (s < aw[j]) = false := this
        rw [this]
        exact Bool.false_ne_true
      unfold firstOver at h
      rw [e] at h
      exact h
end
end K19

set_option maxRecDepth 100000
set_option maxHeartbeats 1000000
namespace K19
open PySem PySem.Spec PyProof.Rows L2 Y
open PySem.W (AllAlike Sortable dataLe dataLt)
/-- when the i-th comes back; p + 1 places -/
def bF (ds : List Int) (t : Int) (p : Nat) (i : Nat) : Int := max (ds.getD i 0) (if h : p + 1 ≤ i then bF ds t p (i - (p + 1)) else 0) + t
termination_by i
decreasing_by omega
def prevF (ds : List Int) (t : Int) (p : Nat) (i : Nat) : Int := if p + 1 ≤ i then bF ds t p (i - (p + 1)) else 0
theorem bF_eq (ds : List Int) (t : Int) (p i : Nat) : bF ds t p i = max (ds.getD i 0) (prevF ds t p i) + t := by
  rw [bF]
  unfold prevF
  split <;> rfl
def backsI (ds : List Int) (t : Int) (p : Nat) : List Int := (List.range ds.length).map (bF ds t p)
theorem backs_length (ds : List Int) (t : Int) (p : Nat) : (backsI ds t p).length = ds.length := by unfold backsI; rw [List.length_map, List.length_range]
section
variable {ds : List Int} {t : Int} {p : Nat}
theorem prev_end (i : Nat) : prevF ds t p (i + (p + 1)) = bF ds t p i := by
  unfold prevF
  rw [if_pos (by omega), Nat.add_sub_cancel]
theorem b_pos (F : Days ds) (ht : 1 ≤ t) (i : Nat) (hi : i < ds.length) : 1 ≤ bF ds t p i := by
  rw [bF_eq]
  have := (F.get hi).1
  omega
theorem b_mono1 (F : Days ds) (ht : 1 ≤ t) : ∀ i, i + 1 < ds.length → bF ds t p i ≤ bF ds t p (i + 1) ∧ prevF ds t p i ≤ prevF ds t p (i + 1) := fun i => by
  induction i using Nat.strongRecOn with
  | ind i ih =>
    intro hi
    have hp : prevF ds t p i ≤ prevF ds t p (i + 1) := by
      unfold prevF
      by_cases h1 : p + 1 ≤ i
      · rw [if_pos h1, if_pos (by omega)]
        have := (ih (i - (p + 1)) (by omega) (by omega)).1
        rw [show i - (p + 1) + 1 = i + 1 - (p + 1) by omega] at this
        exact this
      · rw [if_neg h1]
        by_cases h2 : p + 1 ≤ i + 1
        · rw [if_pos h2]
          have := b_pos (p := p) F ht (i + 1 - (p + 1)) (by omega)
          omega
        · rw [if_neg h2]
          exact Int.le_refl _
    refine ⟨?_, hp⟩
    rw [bF_eq, bF_eq]
    have := F.le (show i ≤ i + 1 by omega) hi
    omega
theorem b_mono (F : Days ds) (ht : 1 ≤ t) {i j : Nat} (h : i ≤ j) (hj : j < ds.length) : bF ds t p i ≤ bF ds t p j := by
  induction j with
  | zero => rw [show i = 0 by omega]; exact Int.le_refl _
  | succ j ih =>
    by_cases e : i = j + 1
    · rw [e]; exact Int.le_refl _
    · have := ih (by omega) (by omega)
      have := (b_mono1 (p := p) F ht j hj).1
      omega
/-- up to the first that is not there -/
theorem prev_mono (F : Days ds) (ht : 1 ≤ t) {i j : Nat} (h : i ≤ j) (hj : j ≤ ds.length + p) : prevF ds t p i ≤ prevF ds t p j := by
  unfold prevF
  by_cases h1 : p + 1 ≤ i
  · rw [if_pos h1, if_pos (by omega)]
    exact b_mono F ht (by omega) (by omega)
  · rw [if_neg h1]
    by_cases h2 : p + 1 ≤ j
    · rw [if_pos h2]
      have := b_pos (p := p) F ht (j - (p + 1)) (by omega)
      omega
    · rw [if_neg h2]
      exact Int.le_refl _
def window (ds : List Int) (t : Int) (p i : Nat) : List Int := (List.range (p + 1)).map fun k => prevF ds t p (i + k)
theorem window_head (i : Nat) : window ds t p i = prevF ds t p i :: (List.range p).map fun k => prevF ds t p (i + 1 + k) := by
  unfold window
  rw [List.range_succ_eq_map, List.map_cons, List.map_map, Nat.add_zero]
  congr 1
  refine List.map_congr_left fun k _ => ?_
  show prevF ds t p (i + (k + 1)) = prevF ds t p (i + 1 + k)
  congr 1
  omega
theorem window_next (i : Nat) : window ds t p (i + 1) = ((List.range p).map fun k => prevF ds t p (i + 1 + k)) ++ [bF ds t p i] := by
  unfold window
  rw [List.range_succ, List.map_append, List.map_cons, List.map_nil, show i + 1 + p = i + (p + 1) by omega, prev_end]
theorem min_window (F : Days ds) (ht : 1 ≤ t) {i : Nat} (hi : i < ds.length) {a : Int} {as : List Int} (h : (a :: as).Perm (window ds t p i)) : minI a as = prevF ds t p i := by
  have h1 : prevF ds t p i ∈ a :: as := h.mem_iff.mpr (by rw [window_head]; exact List.mem_cons_self)
  have h2 : minI a as ∈ window ds t p i := h.mem_iff.mp (minI_mem as a)
  obtain ⟨k, hk, e⟩ := List.mem_map.mp h2
  have hk := List.mem_range.mp hk
  have h3 := prev_mono (p := p) F ht (show i ≤ i + k by omega) (by omega)
  have h4 : minI a as ≤ prevF ds t p i := by
    rcases List.mem_cons.mp h1 with h1 | h1
    · rw [h1]; exact (minI_le as a).1
    · exact (minI_le as a).2 _ h1
  omega
end
section
variable {W : List MO} {R : D → List MO → Prop} {E : Exn → List MO → Prop} {ds : List Int} {t : Int} {p : Nat}
theorem index_ap (l1 l2 : List Int) (m : Int) (h : m ∉ l1) (hR : R (.int (l1.length : Nat)) W) : dIndex (intsD (l1 ++ m :: l2)) (.int m) W R E := by
  refine ⟨okd_ints _, rfl, l1.length, .int m, ?_, ?_, fun k z hk hz => ?_, hR⟩
  · rw [List.getElem?_map, List.getElem?_append_right (Nat.le_refl _), Nat.sub_self]
    rfl
  · show PyData.eqv (.int m) (.int m) = true
    simp [PyData.eqv]
  · rw [List.getElem?_map, List.getElem?_append_left hk, List.getElem?_eq_getElem hk] at hz
    cases hz
    show PyData.eqv (.int l1[k]) (.int m) = false
    simp only [PyData.eqv]
    rw [beq_eq_false_iff_ne]
    intro e
    exact h (by rw [← e]; exact List.getElem_mem hk)
theorem set_mid {α : Type} : ∀ (a b : List α) (x y : α), (a ++ x :: b).set a.length y = a ++ y :: b
  | [], _, _, _ => rfl
  | z :: a, b, x, y => by
    show z :: (a ++ x :: b).set a.length y = z :: (a ++ y :: b)
    rw [set_mid a b x y]
theorem sPut_l (i : Nat) (fk fv : Y.Env → M D) (env : Y.Env) (xs : List D) (K : Ks) (he : env[i]? = some (.o (.lst xs))) : sPut i fk fv env W K = fv env W (fun d W1 => fk env W1 (fun k W2 => match putO (.lst xs) k d with | some o' => K.nx (env.set i (.o o')) W2 | none => False) K.ex) K.ex := by
  unfold sPut
  rw [he] <;> rfl
theorem told_backs_ap (F : Days ds) {L : D} (hL : L = .lst (ds.map .int) ∨ L = .tup (ds.map .int)) (ht : 1 ≤ t) (hp : p ≤ 19) (h : R (intsD (backsI ds t p)) W) : c_told_backs [L, .int t, .int (p + 1 : Nat)] W R E := by
  have f60 := F.len
  show sm_told_backs [.v L, .v (.int t), .v (.int (p + 1 : Nat)), .no, .no, .no, .no, .no] W (kS R E)
  unfold sm_told_backs
  have key : forM (gN 5) (sSeq (sAsg (gN 6) (e2 dMax2 (eName 5) (e1 dMin (eOwn 3)))) (sSeq (sPut 3 (e2g D.isL dIndex (eOwn 3) (e1 dMin (eOwn 3))) (e2 dAdd (eName 6) (eName 1))) (sApp 4 (e2 dAdd (eName 6) (eName 1))))) (ds.map .int) [.v L, .v (.int t), .v (.int (p + 1 : Nat)), .o (intsD (List.replicate (p + 1) 0)), .o (.lst []), .no, .no, .no] W ((kS R E).sq (sFrz 4 (sRet (eName 4)))) := by
    refine forM_inv (fun i e w => ∃ fr a b, fr.Perm (window ds t p i) ∧ e = [.v L, .v (.int t), .v (.int (p + 1 : Nat)), .o (intsD fr), .o (intsD ((List.range i).map (bF ds t p))), a, b, .no] ∧ w = W) ⟨List.replicate (p + 1) 0, _, _, ?_, rfl, rfl⟩ ?_ ?_
    · have e : window ds t p 0 = List.replicate (p + 1) 0 := by
        unfold window
        rw [List.eq_replicate_iff]
        refine ⟨by rw [List.length_map, List.length_range], fun b hb => ?_⟩
        obtain ⟨k, hk, rfl⟩ := List.mem_map.mp hb
        have := List.mem_range.mp hk
        unfold prevF
        rw [if_neg (by omega)]
      rw [e]
    · rintro i d e w P hd ⟨fr, a, b, hfr, rfl, rfl⟩ hP
      rw [List.getElem?_map] at hd
      cases q : ds[i]? with
      | none => rw [q] at hd; cases hd
      | some v =>
        rw [q] at hd
        cases hd
        obtain ⟨hlt, hv⟩ := List.getElem?_eq_some_iff.mp q
        have ev : ds.getD i 0 = v := by rw [List.getD_eq_getElem?_getD, q]; rfl
        obtain ⟨l1, l2, hn, efr, _⟩ := List.exists_erase_eq (l := fr) (a := prevF ds t p i) (hfr.mem_iff.mpr (by rw [window_head]; exact List.mem_cons_self))
        have hmin : ∀ {W : List MO} {R : D → List MO → Prop} {E : Exn → List MO → Prop}, R (.int (prevF ds t p i)) W → dMin (intsD fr) W R E := fun {W R E} hR => by
          cases fr with
          | nil => rw [window_head] at hfr; exact absurd hfr.nil_eq (by simp)
          | cons x xs =>
            rw [dMin_ints, min_window F ht hlt hfr]
            exact hR
        have eb : (if prevF ds t p i > v then prevF ds t p i else v) + t = bF ds t p i := by
          rw [bF_eq, ev]
          split <;> omega
        refine ⟨_, rfl, ?_⟩
        simp only [sSeq_ap, sAsg_ap, e2_ap, e1_ap, eName_ap, eOwn_ap, gN_ap, List.getElem?_cons_zero, List.getElem?_cons_succ, List.set_cons_zero, List.set_cons_succ]
        refine hmin ?_
        simp only [dMax2_ii, ret_ap, sq_nx, sSeq_ap]
        rw [sPut_l _ _ _ _ _ _ rfl]
        simp only [e2_ap, e2g_ap, e1_ap, eName_ap, eOwn_ap, dAdd_ii, ret_ap, isL_l, true_and, List.getElem?_cons_zero, List.getElem?_cons_succ]
        refine hmin ?_
        rw [eb]
        have hj : ixN (fr.map D.int).length ((l1.length : Nat) : Int) = some l1.length := by
          unfold ixN
          have : l1.length < (fr.map D.int).length := by rw [List.length_map, efr, List.length_append]; simp
          rw [if_pos (by omega), if_pos (by omega), Int.toNat_natCast]
        have hidx : ∀ {R : D → List MO → Prop} {E : Exn → List MO → Prop}, R (.int (l1.length : Nat)) w → dIndex (intsD fr) (.int (prevF ds t p i)) w R E := fun {R E} hR => by
          rw [efr]
          exact index_ap l1 l2 _ hn hR
        refine hidx ?_
        have eput : putO (.lst (fr.map D.int)) (.int (l1.length : Nat)) (.int (bF ds t p i)) = some (intsD (l1 ++ bF ds t p i :: l2)) := by
          show (ixN (fr.map D.int).length ((l1.length : Nat) : Int)).map (fun n => D.lst ((fr.map D.int).set n (.int (bF ds t p i)))) = _
          rw [hj]
          show some (D.lst ((fr.map D.int).set l1.length (.int (bF ds t p i)))) = _
          rw [efr]
          show some (D.lst (((l1 ++ prevF ds t p i :: l2).map D.int).set l1.length (.int (bF ds t p i)))) = some (D.lst ((l1 ++ bF ds t p i :: l2).map D.int))
          rw [List.map_append, List.map_cons, List.map_append, List.map_cons]
          have := set_mid (l1.map D.int) (l2.map D.int) (.int (prevF ds t p i)) (.int (bF ds t p i))
          rw [List.length_map] at this
          rw [this]
        simp only [eput, sq_nx, sApp_ap, e2_ap, eName_ap, dAdd_ii, ret_ap, List.getElem?_cons_zero, List.getElem?_cons_succ, List.set_cons_zero, List.set_cons_succ]
        rw [eb]
        refine ⟨?_, hP _ _ ⟨l1 ++ bF ds t p i :: l2, .v (.int v), .v (.int (if prevF ds t p i > v then prevF ds t p i else v)), ?_, ?_, rfl⟩⟩
        · rw [List.length_map, List.length_map, List.length_range]
          show _ < 16777216
          omega
        · have h3 : (l1 ++ prevF ds t p i :: l2).Perm (prevF ds t p i :: (List.range p).map fun k => prevF ds t p (i + 1 + k)) := by
            rw [← efr, ← window_head]
            exact hfr
          have h4 := (List.perm_middle.symm.trans h3).cons_inv
          rw [window_next]
          exact List.perm_middle.trans ((h4.cons _).trans (List.perm_append_singleton _ _).symm)
        · have e9 : ((List.range (i + 1)).map (bF ds t p)).map D.int = ((List.range i).map (bF ds t p)).map D.int ++ [.int (bF ds t p i)] := by
            rw [List.range_succ, List.map_append, List.map_append]
            rfl
          unfold intsD
          rw [e9]
    · rintro e w ⟨fr, a, b, _, rfl, rfl⟩
      rw [List.length_map]
      simp only [ret_ap, bnd_ap, ask_ap, fail_ap, noE_ap, eName_ap, eOwn_ap, eC_ap, e1_ap, e2_ap, e2g_ap, e3_ap, tst_ap, bAnd_ap, bOr_ap, bNot_ap, bYes_ap, vAnd_ap, vOr_ap, vNot_ap, tru_ap, eIf_ap, aNil_ap, aCons_ap, aStar_ap, eTup_ap, eLst_ap, eTupS_ap, eLstS_ap, eCall_ap, eRef_ap, eIsi_ap, eIsi2_ap, iSeq_ap, iEn_ap, iR1_ap, iR2_ap, iR3_ap, eLc_ap, sNil_ap, sSeq_ap, sFrz_ap, sExpr_ap, sRet_ap, sAsg_ap, sOwn_ap, sIf_ap, sFor_ap, sAug_ap, sApp_ap, sExt_ap, sRaise_ap, gN_ap, gT_ap, gsC_ap, gs0_ap, sq_rt, sq_ex, sq_bk, sq_ct, lp_rt, lp_ex, lp_bk, lp_ct, lp_nx, kS_rt, kS_ex, kS_nx, List.getElem?_cons_zero, List.getElem?_cons_succ, List.set_cons_zero, List.set_cons_succ, Option.bind_some, dLen_lst, dLen_tup, dLen_dct, dLen_str, dAdd_ii, dAdd_ss, dAdd_ll, dAdd_tt, dSub_ii, dMul_ii, dMul_li, dFdiv_ii, dMod_ii, dPow_ii, dNeg_i, dCmp_ii, dSum_l, dAll_l, dAny_l, dAbs_i, dInt_i, dInt_b, dList_l, dList_t, dTuple_l, dTuple_t, dMax2_ii, dMin2_ii, dAddI_ii, dRev_l, dIx_l, dIx_t, dIx_d, orFail_some, orFail_none, tru_non, ty_non, tru_bl, ty_bl, tru_int, ty_int, tru_str, ty_str, tru_lst, ty_lst, tru_tup, ty_tup, tru_dct, ty_dct, its_lst, items_lst, its_tup, items_tup, isL_l, dIsN, dNotN, if_true, if_false, Bool.not_true, Bool.not_false, true_and, and_true, wipeE, isTy_NoneType_bool, isTy_NoneType_int, isTy_NoneType_str, isTy_NoneType_list, isTy_NoneType_tuple, isTy_NoneType_dict, isTy_bool_bool, isTy_bool_int, isTy_bool_str, isTy_bool_list, isTy_bool_tuple, isTy_bool_dict, isTy_int_bool, isTy_int_int, isTy_int_str, isTy_int_list, isTy_int_tuple, isTy_int_dict, isTy_str_bool, isTy_str_int, isTy_str_str, isTy_str_list, isTy_str_tuple, isTy_str_dict, isTy_list_bool, isTy_list_int, isTy_list_str, isTy_list_list, isTy_list_tuple, isTy_list_dict, isTy_tuple_bool, isTy_tuple_int, isTy_tuple_str, isTy_tuple_list, isTy_tuple_tuple, isTy_tuple_dict, isTy_dict_bool, isTy_dict_int, isTy_dict_str, isTy_dict_list, isTy_dict_tuple, isTy_dict_dict, sMulti_ap, giveE, eSl_ap, pN_ap, pS_ap, dSl_l, dSl_t, isN_non, isN_bl, isN_int, isN_str, isN_lst, isN_tup, isN_dct, isN_fn, isN_row, Bool.or_true, Bool.or_false, Bool.true_or, Bool.false_or, reduceCtorEq, eq_self, ↓reduceIte, sq_nx]
      exact h
  have start : ∀ (RL : List D → List MO → Prop), RL ((List.replicate (p + 1) (0 : Int)).map .int) W → compM (gN 7) bYes (eC (.int 0)) [.v L, .v (.int t), .v (.int (p + 1 : Nat)), .no, .no, .no, .no, .no] (rangeD 0 (p + 1)) W RL (fun _ _ => False) := fun RL hR => by
    refine compM_map1 (g := fun _ => .int 0) (fun d hd => ⟨_, rfl, fun W R E h => h⟩) ?_
    rw [List.map_const', rangeD_length]
    rw [List.map_replicate] at hR
    exact hR
  rcases hL with rfl | rfl <;>
  · simp only [sSeq_ap, sOwn_ap, eLc_ap, iR1_ap, aCons_ap, aNil_ap, eName_ap, List.getElem?_cons_zero, List.getElem?_cons_succ, List.set_cons_zero, List.set_cons_succ, wipeE]
    refine ⟨⟨small62_of (by omega) (by omega), small_leni (by omega)⟩, ?_⟩
    refine start _ ?_
    simp only [ret_ap, bnd_ap, ask_ap, fail_ap, noE_ap, eName_ap, eOwn_ap, eC_ap, e1_ap, e2_ap, e2g_ap, e3_ap, tst_ap, bAnd_ap, bOr_ap, bNot_ap, bYes_ap, vAnd_ap, vOr_ap, vNot_ap, tru_ap, eIf_ap, aNil_ap, aCons_ap, aStar_ap, eTup_ap, eLst_ap, eTupS_ap, eLstS_ap, eCall_ap, eRef_ap, eIsi_ap, eIsi2_ap, iSeq_ap, iEn_ap, iR1_ap, iR2_ap, iR3_ap, eLc_ap, sNil_ap, sSeq_ap, sFrz_ap, sExpr_ap, sRet_ap, sAsg_ap, sOwn_ap, sIf_ap, sFor_ap, sAug_ap, sApp_ap, sExt_ap, sRaise_ap, gN_ap, gT_ap, gsC_ap, gs0_ap, sq_rt, sq_ex, sq_bk, sq_ct, lp_rt, lp_ex, lp_bk, lp_ct, lp_nx, kS_rt, kS_ex, kS_nx, List.getElem?_cons_zero, List.getElem?_cons_succ, List.set_cons_zero, List.set_cons_succ, Option.bind_some, dLen_lst, dLen_tup, dLen_dct, dLen_str, dAdd_ii, dAdd_ss, dAdd_ll, dAdd_tt, dSub_ii, dMul_ii, dMul_li, dFdiv_ii, dMod_ii, dPow_ii, dNeg_i, dCmp_ii, dSum_l, dAll_l, dAny_l, dAbs_i, dInt_i, dInt_b, dList_l, dList_t, dTuple_l, dTuple_t, dMax2_ii, dMin2_ii, dAddI_ii, dRev_l, dIx_l, dIx_t, dIx_d, orFail_some, orFail_none, tru_non, ty_non, tru_bl, ty_bl, tru_int, ty_int, tru_str, ty_str, tru_lst, ty_lst, tru_tup, ty_tup, tru_dct, ty_dct, its_lst, items_lst, its_tup, items_tup, isL_l, dIsN, dNotN, if_true, if_false, Bool.not_true, Bool.not_false, true_and, and_true, wipeE, isTy_NoneType_bool, isTy_NoneType_int, isTy_NoneType_str, isTy_NoneType_list, isTy_NoneType_tuple, isTy_NoneType_dict, isTy_bool_bool, isTy_bool_int, isTy_bool_str, isTy_bool_list, isTy_bool_tuple, isTy_bool_dict, isTy_int_bool, isTy_int_int, isTy_int_str, isTy_int_list, isTy_int_tuple, isTy_int_dict, isTy_str_bool, isTy_str_int, isTy_str_str, isTy_str_list, isTy_str_tuple, isTy_str_dict, isTy_list_bool, isTy_list_int, isTy_list_str, isTy_list_list, isTy_list_tuple, isTy_list_dict, isTy_tuple_bool, isTy_tuple_int, isTy_tuple_str, isTy_tuple_list, isTy_tuple_tuple, isTy_tuple_dict, isTy_dict_bool, isTy_dict_int, isTy_dict_str, isTy_dict_list, isTy_dict_tuple, isTy_dict_dict, sMulti_ap, giveE, eSl_ap, pN_ap, pS_ap, dSl_l, dSl_t, isN_non, isN_bl, isN_int, isN_str, isN_lst, isN_tup, isN_dct, isN_fn, isN_row, Bool.or_true, Bool.or_false, Bool.true_or, Bool.false_or, reduceCtorEq, eq_self, ↓reduceIte, sq_nx]
    exact key
theorem check_places_ap (d : D) (hd : d.ty.isSome = true) (h1 : d.within 1 20 = true → R .non W) (h2 : d.within 1 20 = false → E ⟨"BadPlaces", [("value", d)]⟩ W) : c_check_places [d] W R E := by
  show sm_check_places [.v d] W (kS R E)
  unfold sm_check_places
  simp only [ret_ap, bnd_ap, ask_ap, fail_ap, noE_ap, eName_ap, eOwn_ap, eC_ap, e1_ap, e2_ap, e2g_ap, e3_ap, tst_ap, bAnd_ap, bOr_ap, bNot_ap, bYes_ap, vAnd_ap, vOr_ap, vNot_ap, tru_ap, eIf_ap, aNil_ap, aCons_ap, aStar_ap, eTup_ap, eLst_ap, eTupS_ap, eLstS_ap, eCall_ap, eRef_ap, eIsi_ap, eIsi2_ap, iSeq_ap, iEn_ap, iR1_ap, iR2_ap, iR3_ap, eLc_ap, sNil_ap, sSeq_ap, sFrz_ap, sExpr_ap, sRet_ap, sAsg_ap, sOwn_ap, sIf_ap, sFor_ap, sAug_ap, sApp_ap, sExt_ap, sRaise_ap, gN_ap, gT_ap, gsC_ap, gs0_ap, sq_rt, sq_ex, sq_bk, sq_ct, lp_rt, lp_ex, lp_bk, lp_ct, lp_nx, kS_rt, kS_ex, kS_nx, List.getElem?_cons_zero, List.getElem?_cons_succ, List.set_cons_zero, List.set_cons_succ, Option.bind_some, dLen_lst, dLen_tup, dLen_dct, dLen_str, dAdd_ii, dAdd_ss, dAdd_ll, dAdd_tt, dSub_ii, dMul_ii, dMul_li, dFdiv_ii, dMod_ii, dPow_ii, dNeg_i, dCmp_ii, dSum_l, dAll_l, dAny_l, dAbs_i, dInt_i, dInt_b, dList_l, dList_t, dTuple_l, dTuple_t, dMax2_ii, dMin2_ii, dAddI_ii, dRev_l, dIx_l, dIx_t, dIx_d, orFail_some, orFail_none, tru_non, ty_non, tru_bl, ty_bl, tru_int, ty_int, tru_str, ty_str, tru_lst, ty_lst, tru_tup, ty_tup, tru_dct, ty_dct, its_lst, items_lst, its_tup, items_tup, isL_l, dIsN, dNotN, if_true, if_false, Bool.not_true, Bool.not_false, true_and, and_true, wipeE, isTy_NoneType_bool, isTy_NoneType_int, isTy_NoneType_str, isTy_NoneType_list, isTy_NoneType_tuple, isTy_NoneType_dict, isTy_bool_bool, isTy_bool_int, isTy_bool_str, isTy_bool_list, isTy_bool_tuple, isTy_bool_dict, isTy_int_bool, isTy_int_int, isTy_int_str, isTy_int_list, isTy_int_tuple, isTy_int_dict, isTy_str_bool, isTy_str_int, isTy_str_str, isTy_str_list, isTy_str_tuple, isTy_str_dict, isTy_list_bool, isTy_list_int, isTy_list_str, isTy_list_list, isTy_list_tuple, isTy_list_dict, isTy_tuple_bool, isTy_tuple_int, isTy_tuple_str, isTy_tuple_list, isTy_tuple_tuple, isTy_tuple_dict, isTy_dict_bool, isTy_dict_int, isTy_dict_str, isTy_dict_list, isTy_dict_tuple, isTy_dict_dict, sMulti_ap, giveE, eSl_ap, pN_ap, pS_ap, dSl_l, dSl_t, isN_non, isN_bl, isN_int, isN_str, isN_lst, isN_tup, isN_dct, isN_fn, isN_row, Bool.or_true, Bool.or_false, Bool.true_or, Bool.false_or, reduceCtorEq, eq_self, ↓reduceIte, is_within_ap d 1 20 hd]
  cases q : d.within 1 20 with
  | true => simp only [ret_ap, bnd_ap, ask_ap, fail_ap, noE_ap, eName_ap, eOwn_ap, eC_ap, e1_ap, e2_ap, e2g_ap, e3_ap, tst_ap, bAnd_ap, bOr_ap, bNot_ap, bYes_ap, vAnd_ap, vOr_ap, vNot_ap, tru_ap, eIf_ap, aNil_ap, aCons_ap, aStar_ap, eTup_ap, eLst_ap, eTupS_ap, eLstS_ap, eCall_ap, eRef_ap, eIsi_ap, eIsi2_ap, iSeq_ap, iEn_ap, iR1_ap, iR2_ap, iR3_ap, eLc_ap, sNil_ap, sSeq_ap, sFrz_ap, sExpr_ap, sRet_ap, sAsg_ap, sOwn_ap, sIf_ap, sFor_ap, sAug_ap, sApp_ap, sExt_ap, sRaise_ap, gN_ap, gT_ap, gsC_ap, gs0_ap, sq_rt, sq_ex, sq_bk, sq_ct, lp_rt, lp_ex, lp_bk, lp_ct, lp_nx, kS_rt, kS_ex, kS_nx, List.getElem?_cons_zero, List.getElem?_cons_succ, List.set_cons_zero, List.set_cons_succ, Option.bind_some, dLen_lst, dLen_tup, dLen_dct, dLen_str, dAdd_ii, dAdd_ss, dAdd_ll, dAdd_tt, dSub_ii, dMul_ii, dMul_li, dFdiv_ii, dMod_ii, dPow_ii, dNeg_i, dCmp_ii, dSum_l, dAll_l, dAny_l, dAbs_i, dInt_i, dInt_b, dList_l, dList_t, dTuple_l, dTuple_t, dMax2_ii, dMin2_ii, dAddI_ii, dRev_l, dIx_l, dIx_t, dIx_d, orFail_some, orFail_none, tru_non, ty_non, tru_bl, ty_bl, tru_int, ty_int, tru_str, ty_str, tru_lst, ty_lst, tru_tup, ty_tup, tru_dct, ty_dct, its_lst, items_lst, its_tup, items_tup, isL_l, dIsN, dNotN, if_true, if_false, Bool.not_true, Bool.not_false, true_and, and_true, wipeE, isTy_NoneType_bool, isTy_NoneType_int, isTy_NoneType_str, isTy_NoneType_list, isTy_NoneType_tuple, isTy_NoneType_dict, isTy_bool_bool, isTy_bool_int, isTy_bool_str, isTy_bool_list, isTy_bool_tuple, isTy_bool_dict, isTy_int_bool, isTy_int_int, isTy_int_str, isTy_int_list, isTy_int_tuple, isTy_int_dict, isTy_str_bool, isTy_str_int, isTy_str_str, isTy_str_list, isTy_str_tuple, isTy_str_dict, isTy_list_bool, isTy_list_int, isTy_list_str, isTy_list_list, isTy_list_tuple, isTy_list_dict, isTy_tuple_bool, isTy_tuple_int, isTy_tuple_str, isTy_tuple_list, isTy_tuple_tuple, isTy_tuple_dict, isTy_dict_bool, isTy_dict_int, isTy_dict_str, isTy_dict_list, isTy_dict_tuple, isTy_dict_dict, sMulti_ap, giveE, eSl_ap, pN_ap, pS_ap, dSl_l, dSl_t, isN_non, isN_bl, isN_int, isN_str, isN_lst, isN_tup, isN_dct, isN_fn, isN_row, Bool.or_true, Bool.or_false, Bool.true_or, Bool.false_or, reduceCtorEq, eq_self, ↓reduceIte]; exact h1 q
  | false => simp only [ret_ap, bnd_ap, ask_ap, fail_ap, noE_ap, eName_ap, eOwn_ap, eC_ap, e1_ap, e2_ap, e2g_ap, e3_ap, tst_ap, bAnd_ap, bOr_ap, bNot_ap, bYes_ap, vAnd_ap, vOr_ap, vNot_ap, tru_ap, eIf_ap, aNil_ap, aCons_ap, aStar_ap, eTup_ap, eLst_ap, eTupS_ap, eLstS_ap, eCall_ap, eRef_ap, eIsi_ap, eIsi2_ap, iSeq_ap, iEn_ap, iR1_ap, iR2_ap, iR3_ap, eLc_ap, sNil_ap, sSeq_ap, sFrz_ap, sExpr_ap, sRet_ap, sAsg_ap, sOwn_ap, sIf_ap, sFor_ap, sAug_ap, sApp_ap, sExt_ap, sRaise_ap, gN_ap, gT_ap, gsC_ap, gs0_ap, sq_rt, sq_ex, sq_bk, sq_ct, lp_rt, lp_ex, lp_bk, lp_ct, lp_nx, kS_rt, kS_ex, kS_nx, List.getElem?_cons_zero, List.getElem?_cons_succ, List.set_cons_zero, List.set_cons_succ, Option.bind_some, dLen_lst, dLen_tup, dLen_dct, dLen_str, dAdd_ii, dAdd_ss, dAdd_ll, dAdd_tt, dSub_ii, dMul_ii, dMul_li, dFdiv_ii, dMod_ii, dPow_ii, dNeg_i, dCmp_ii, dSum_l, dAll_l, dAny_l, dAbs_i, dInt_i, dInt_b, dList_l, dList_t, dTuple_l, dTuple_t, dMax2_ii, dMin2_ii, dAddI_ii, dRev_l, dIx_l, dIx_t, dIx_d, orFail_some, orFail_none, tru_non, ty_non, tru_bl, ty_bl, tru_int, ty_int, tru_str, ty_str, tru_lst, ty_lst, tru_tup, ty_tup, tru_dct, ty_dct, its_lst, items_lst, its_tup, items_tup, isL_l, dIsN, dNotN, if_true, if_false, Bool.not_true, Bool.not_false, true_and, and_true, wipeE, isTy_NoneType_bool, isTy_NoneType_int, isTy_NoneType_str, isTy_NoneType_list, isTy_NoneType_tuple, isTy_NoneType_dict, isTy_bool_bool, isTy_bool_int, isTy_bool_str, isTy_bool_list, isTy_bool_tuple, isTy_bool_dict, isTy_int_bool, isTy_int_int, isTy_int_str, isTy_int_list, isTy_int_tuple, isTy_int_dict, isTy_str_bool, isTy_str_int, isTy_str_str, isTy_str_list, isTy_str_tuple, isTy_str_dict, isTy_list_bool, isTy_list_int, isTy_list_str, isTy_list_list, isTy_list_tuple, isTy_list_dict, isTy_tuple_bool, isTy_tuple_int, isTy_tuple_str, isTy_tuple_list, isTy_tuple_tuple, isTy_tuple_dict, isTy_dict_bool, isTy_dict_int, isTy_dict_str, isTy_dict_list, isTy_dict_tuple, isTy_dict_dict, sMulti_ap, giveE, eSl_ap, pN_ap, pS_ap, dSl_l, dSl_t, isN_non, isN_bl, isN_int, isN_str, isN_lst, isN_tup, isN_dct, isN_fn, isN_row, Bool.or_true, Bool.or_false, Bool.true_or, Bool.false_or, reduceCtorEq, eq_self, ↓reduceIte]; exact h2 q
theorem within_places (hp : p ≤ 19) : D.within 1 20 (.int (p + 1 : Nat)) = true := by
  show (decide _ && decide _) = true
  rw [decide_eq_true (by omega), decide_eq_true (by omega)]
  rfl
theorem with_shop_ap (F : Days ds) {L : D} (hL : L = .lst (ds.map .int) ∨ L = .tup (ds.map .int)) (ht : 1 ≤ t) (ht2 : t ≤ 1000) (hp : p ≤ 19) (h : R (intsD (backsI ds t p)) W) : c_with_shop [L, .int t, .int (p + 1 : Nat)] W R E := by
  show sm_with_shop [.v L, .v (.int t), .v (.int (p + 1 : Nat))] W (kS R E)
  unfold sm_with_shop
  simp only [ret_ap, bnd_ap, ask_ap, fail_ap, noE_ap, eName_ap, eOwn_ap, eC_ap, e1_ap, e2_ap, e2g_ap, e3_ap, tst_ap, bAnd_ap, bOr_ap, bNot_ap, bYes_ap, vAnd_ap, vOr_ap, vNot_ap, tru_ap, eIf_ap, aNil_ap, aCons_ap, aStar_ap, eTup_ap, eLst_ap, eTupS_ap, eLstS_ap, eCall_ap, eRef_ap, eIsi_ap, eIsi2_ap, iSeq_ap, iEn_ap, iR1_ap, iR2_ap, iR3_ap, eLc_ap, sNil_ap, sSeq_ap, sFrz_ap, sExpr_ap, sRet_ap, sAsg_ap, sOwn_ap, sIf_ap, sFor_ap, sAug_ap, sApp_ap, sExt_ap, sRaise_ap, gN_ap, gT_ap, gsC_ap, gs0_ap, sq_rt, sq_ex, sq_bk, sq_ct, lp_rt, lp_ex, lp_bk, lp_ct, lp_nx, kS_rt, kS_ex, kS_nx, List.getElem?_cons_zero, List.getElem?_cons_succ, List.set_cons_zero, List.set_cons_succ, Option.bind_some, dLen_lst, dLen_tup, dLen_dct, dLen_str, dAdd_ii, dAdd_ss, dAdd_ll, dAdd_tt, dSub_ii, dMul_ii, dMul_li, dFdiv_ii, dMod_ii, dPow_ii, dNeg_i, dCmp_ii, dSum_l, dAll_l, dAny_l, dAbs_i, dInt_i, dInt_b, dList_l, dList_t, dTuple_l, dTuple_t, dMax2_ii, dMin2_ii, dAddI_ii, dRev_l, dIx_l, dIx_t, dIx_d, orFail_some, orFail_none, tru_non, ty_non, tru_bl, ty_bl, tru_int, ty_int, tru_str, ty_str, tru_lst, ty_lst, tru_tup, ty_tup, tru_dct, ty_dct, its_lst, items_lst, its_tup, items_tup, isL_l, dIsN, dNotN, if_true, if_false, Bool.not_true, Bool.not_false, true_and, and_true, wipeE, isTy_NoneType_bool, isTy_NoneType_int, isTy_NoneType_str, isTy_NoneType_list, isTy_NoneType_tuple, isTy_NoneType_dict, isTy_bool_bool, isTy_bool_int, isTy_bool_str, isTy_bool_list, isTy_bool_tuple, isTy_bool_dict, isTy_int_bool, isTy_int_int, isTy_int_str, isTy_int_list, isTy_int_tuple, isTy_int_dict, isTy_str_bool, isTy_str_int, isTy_str_str, isTy_str_list, isTy_str_tuple, isTy_str_dict, isTy_list_bool, isTy_list_int, isTy_list_str, isTy_list_list, isTy_list_tuple, isTy_list_dict, isTy_tuple_bool, isTy_tuple_int, isTy_tuple_str, isTy_tuple_list, isTy_tuple_tuple, isTy_tuple_dict, isTy_dict_bool, isTy_dict_int, isTy_dict_str, isTy_dict_list, isTy_dict_tuple, isTy_dict_dict, sMulti_ap, giveE, eSl_ap, pN_ap, pS_ap, dSl_l, dSl_t, isN_non, isN_bl, isN_int, isN_str, isN_lst, isN_tup, isN_dct, isN_fn, isN_row, Bool.or_true, Bool.or_false, Bool.true_or, Bool.false_or, reduceCtorEq, eq_self, ↓reduceIte]
  refine days_fine F hL ht ht2 ?_
  rw [sq_nx]
  simp only [ret_ap, bnd_ap, ask_ap, fail_ap, noE_ap, eName_ap, eOwn_ap, eC_ap, e1_ap, e2_ap, e2g_ap, e3_ap, tst_ap, bAnd_ap, bOr_ap, bNot_ap, bYes_ap, vAnd_ap, vOr_ap, vNot_ap, tru_ap, eIf_ap, aNil_ap, aCons_ap, aStar_ap, eTup_ap, eLst_ap, eTupS_ap, eLstS_ap, eCall_ap, eRef_ap, eIsi_ap, eIsi2_ap, iSeq_ap, iEn_ap, iR1_ap, iR2_ap, iR3_ap, eLc_ap, sNil_ap, sSeq_ap, sFrz_ap, sExpr_ap, sRet_ap, sAsg_ap, sOwn_ap, sIf_ap, sFor_ap, sAug_ap, sApp_ap, sExt_ap, sRaise_ap, gN_ap, gT_ap, gsC_ap, gs0_ap, sq_rt, sq_ex, sq_bk, sq_ct, lp_rt, lp_ex, lp_bk, lp_ct, lp_nx, kS_rt, kS_ex, kS_nx, List.getElem?_cons_zero, List.getElem?_cons_succ, List.set_cons_zero, List.set_cons_succ, Option.bind_some, dLen_lst, dLen_tup, dLen_dct, dLen_str, dAdd_ii, dAdd_ss, dAdd_ll, dAdd_tt, dSub_ii, dMul_ii, dMul_li, dFdiv_ii, dMod_ii, dPow_ii, dNeg_i, dCmp_ii, dSum_l, dAll_l, dAny_l, dAbs_i, dInt_i, dInt_b, dList_l, dList_t, dTuple_l, dTuple_t, dMax2_ii, dMin2_ii, dAddI_ii, dRev_l, dIx_l, dIx_t, dIx_d, orFail_some, orFail_none, tru_non, ty_non, tru_bl, ty_bl, tru_int, ty_int, tru_str, ty_str, tru_lst, ty_lst, tru_tup, ty_tup, tru_dct, ty_dct, its_lst, items_lst, its_tup, items_tup, isL_l, dIsN, dNotN, if_true, if_false, Bool.not_true, Bool.not_false, true_and, and_true, wipeE, isTy_NoneType_bool, isTy_NoneType_int, isTy_NoneType_str, isTy_NoneType_list, isTy_NoneType_tuple, isTy_NoneType_dict, isTy_bool_bool, isTy_bool_int, isTy_bool_str, isTy_bool_list, isTy_bool_tuple, isTy_bool_dict, isTy_int_bool, isTy_int_int, isTy_int_str, isTy_int_list, isTy_int_tuple, isTy_int_dict, isTy_str_bool, isTy_str_int, isTy_str_str, isTy_str_list, isTy_str_tuple, isTy_str_dict, isTy_list_bool, isTy_list_int, isTy_list_str, isTy_list_list, isTy_list_tuple, isTy_list_dict, isTy_tuple_bool, isTy_tuple_int, isTy_tuple_str, isTy_tuple_list, isTy_tuple_tuple, isTy_tuple_dict, isTy_dict_bool, isTy_dict_int, isTy_dict_str, isTy_dict_list, isTy_dict_tuple, isTy_dict_dict, sMulti_ap, giveE, eSl_ap, pN_ap, pS_ap, dSl_l, dSl_t, isN_non, isN_bl, isN_int, isN_str, isN_lst, isN_tup, isN_dct, isN_fn, isN_row, Bool.or_true, Bool.or_false, Bool.true_or, Bool.false_or, reduceCtorEq, eq_self, ↓reduceIte]
  refine check_places_ap _ rfl (fun _ => ?_) fun z => by rw [within_places hp] at z; cases z
  simp only [ret_ap, bnd_ap, ask_ap, fail_ap, noE_ap, eName_ap, eOwn_ap, eC_ap, e1_ap, e2_ap, e2g_ap, e3_ap, tst_ap, bAnd_ap, bOr_ap, bNot_ap, bYes_ap, vAnd_ap, vOr_ap, vNot_ap, tru_ap, eIf_ap, aNil_ap, aCons_ap, aStar_ap, eTup_ap, eLst_ap, eTupS_ap, eLstS_ap, eCall_ap, eRef_ap, eIsi_ap, eIsi2_ap, iSeq_ap, iEn_ap, iR1_ap, iR2_ap, iR3_ap, eLc_ap, sNil_ap, sSeq_ap, sFrz_ap, sExpr_ap, sRet_ap, sAsg_ap, sOwn_ap, sIf_ap, sFor_ap, sAug_ap, sApp_ap, sExt_ap, sRaise_ap, gN_ap, gT_ap, gsC_ap, gs0_ap, sq_rt, sq_ex, sq_bk, sq_ct, lp_rt, lp_ex, lp_bk, lp_ct, lp_nx, kS_rt, kS_ex, kS_nx, List.getElem?_cons_zero, List.getElem?_cons_succ, List.set_cons_zero, List.set_cons_succ, Option.bind_some, dLen_lst, dLen_tup, dLen_dct, dLen_str, dAdd_ii, dAdd_ss, dAdd_ll, dAdd_tt, dSub_ii, dMul_ii, dMul_li, dFdiv_ii, dMod_ii, dPow_ii, dNeg_i, dCmp_ii, dSum_l, dAll_l, dAny_l, dAbs_i, dInt_i, dInt_b, dList_l, dList_t, dTuple_l, dTuple_t, dMax2_ii, dMin2_ii, dAddI_ii, dRev_l, dIx_l, dIx_t, dIx_d, orFail_some, orFail_none, tru_non, ty_non, tru_bl, ty_bl, tru_int, ty_int, tru_str, ty_str, tru_lst, ty_lst, tru_tup, ty_tup, tru_dct, ty_dct, its_lst, items_lst, its_tup, items_tup, isL_l, dIsN, dNotN, if_true, if_false, Bool.not_true, Bool.not_false, true_and, and_true, wipeE, isTy_NoneType_bool, isTy_NoneType_int, isTy_NoneType_str, isTy_NoneType_list, isTy_NoneType_tuple, isTy_NoneType_dict, isTy_bool_bool, isTy_bool_int, isTy_bool_str, isTy_bool_list, isTy_bool_tuple, isTy_bool_dict, isTy_int_bool, isTy_int_int, isTy_int_str, isTy_int_list, isTy_int_tuple, isTy_int_dict, isTy_str_bool, isTy_str_int, isTy_str_str, isTy_str_list, isTy_str_tuple, isTy_str_dict, isTy_list_bool, isTy_list_int, isTy_list_str, isTy_list_list, isTy_list_tuple, isTy_list_dict, isTy_tuple_bool, isTy_tuple_int, isTy_tuple_str, isTy_tuple_list, isTy_tuple_tuple, isTy_tuple_dict, isTy_dict_bool, isTy_dict_int, isTy_dict_str, isTy_dict_list, isTy_dict_tuple, isTy_dict_dict, sMulti_ap, giveE, eSl_ap, pN_ap, pS_ap, dSl_l, dSl_t, isN_non, isN_bl, isN_int, isN_str, isN_lst, isN_tup, isN_dct, isN_fn, isN_row, Bool.or_true, Bool.or_false, Bool.true_or, Bool.false_or, reduceCtorEq, eq_self, ↓reduceIte, sq_nx]
  exact told_backs_ap F hL ht hp h
theorem shop_spares_ap (F : Days ds) {L : D} (hL : L = .lst (ds.map .int) ∨ L = .tup (ds.map .int)) (ht : 1 ≤ t) (ht2 : t ≤ 1000) (hp : p ≤ 19) (h : R (.int (max0 (awayI ds (backsI ds t p)))) W) : c_shop_spares [L, .int t, .int (p + 1 : Nat)] W R E := by
  have f60 := F.len
  show sm_shop_spares [.v L, .v (.int t), .v (.int (p + 1 : Nat))] W (kS R E)
  unfold sm_shop_spares
  simp only [ret_ap, bnd_ap, ask_ap, fail_ap, noE_ap, eName_ap, eOwn_ap, eC_ap, e1_ap, e2_ap, e2g_ap, e3_ap, tst_ap, bAnd_ap, bOr_ap, bNot_ap, bYes_ap, vAnd_ap, vOr_ap, vNot_ap, tru_ap, eIf_ap, aNil_ap, aCons_ap, aStar_ap, eTup_ap, eLst_ap, eTupS_ap, eLstS_ap, eCall_ap, eRef_ap, eIsi_ap, eIsi2_ap, iSeq_ap, iEn_ap, iR1_ap, iR2_ap, iR3_ap, eLc_ap, sNil_ap, sSeq_ap, sFrz_ap, sExpr_ap, sRet_ap, sAsg_ap, sOwn_ap, sIf_ap, sFor_ap, sAug_ap, sApp_ap, sExt_ap, sRaise_ap, gN_ap, gT_ap, gsC_ap, gs0_ap, sq_rt, sq_ex, sq_bk, sq_ct, lp_rt, lp_ex, lp_bk, lp_ct, lp_nx, kS_rt, kS_ex, kS_nx, List.getElem?_cons_zero, List.getElem?_cons_succ, List.set_cons_zero, List.set_cons_succ, Option.bind_some, dLen_lst, dLen_tup, dLen_dct, dLen_str, dAdd_ii, dAdd_ss, dAdd_ll, dAdd_tt, dSub_ii, dMul_ii, dMul_li, dFdiv_ii, dMod_ii, dPow_ii, dNeg_i, dCmp_ii, dSum_l, dAll_l, dAny_l, dAbs_i, dInt_i, dInt_b, dList_l, dList_t, dTuple_l, dTuple_t, dMax2_ii, dMin2_ii, dAddI_ii, dRev_l, dIx_l, dIx_t, dIx_d, orFail_some, orFail_none, tru_non, ty_non, tru_bl, ty_bl, tru_int, ty_int, tru_str, ty_str, tru_lst, ty_lst, tru_tup, ty_tup, tru_dct, ty_dct, its_lst, items_lst, its_tup, items_tup, isL_l, dIsN, dNotN, if_true, if_false, Bool.not_true, Bool.not_false, true_and, and_true, wipeE, isTy_NoneType_bool, isTy_NoneType_int, isTy_NoneType_str, isTy_NoneType_list, isTy_NoneType_tuple, isTy_NoneType_dict, isTy_bool_bool, isTy_bool_int, isTy_bool_str, isTy_bool_list, isTy_bool_tuple, isTy_bool_dict, isTy_int_bool, isTy_int_int, isTy_int_str, isTy_int_list, isTy_int_tuple, isTy_int_dict, isTy_str_bool, isTy_str_int, isTy_str_str, isTy_str_list, isTy_str_tuple, isTy_str_dict, isTy_list_bool, isTy_list_int, isTy_list_str, isTy_list_list, isTy_list_tuple, isTy_list_dict, isTy_tuple_bool, isTy_tuple_int, isTy_tuple_str, isTy_tuple_list, isTy_tuple_tuple, isTy_tuple_dict, isTy_dict_bool, isTy_dict_int, isTy_dict_str, isTy_dict_list, isTy_dict_tuple, isTy_dict_dict, sMulti_ap, giveE, eSl_ap, pN_ap, pS_ap, dSl_l, dSl_t, isN_non, isN_bl, isN_int, isN_str, isN_lst, isN_tup, isN_dct, isN_fn, isN_row, Bool.or_true, Bool.or_false, Bool.true_or, Bool.false_or, reduceCtorEq, eq_self, ↓reduceIte]
  refine days_fine F hL ht ht2 ?_
  rw [sq_nx]
  simp only [ret_ap, bnd_ap, ask_ap, fail_ap, noE_ap, eName_ap, eOwn_ap, eC_ap, e1_ap, e2_ap, e2g_ap, e3_ap, tst_ap, bAnd_ap, bOr_ap, bNot_ap, bYes_ap, vAnd_ap, vOr_ap, vNot_ap, tru_ap, eIf_ap, aNil_ap, aCons_ap, aStar_ap, eTup_ap, eLst_ap, eTupS_ap, eLstS_ap, eCall_ap, eRef_ap, eIsi_ap, eIsi2_ap, iSeq_ap, iEn_ap, iR1_ap, iR2_ap, iR3_ap, eLc_ap, sNil_ap, sSeq_ap, sFrz_ap, sExpr_ap, sRet_ap, sAsg_ap, sOwn_ap, sIf_ap, sFor_ap, sAug_ap, sApp_ap, sExt_ap, sRaise_ap, gN_ap, gT_ap, gsC_ap, gs0_ap, sq_rt, sq_ex, sq_bk, sq_ct, lp_rt, lp_ex, lp_bk, lp_ct, lp_nx, kS_rt, kS_ex, kS_nx, List.getElem?_cons_zero, List.getElem?_cons_succ, List.set_cons_zero, List.set_cons_succ, Option.bind_some, dLen_lst, dLen_tup, dLen_dct, dLen_str, dAdd_ii, dAdd_ss, dAdd_ll, dAdd_tt, dSub_ii, dMul_ii, dMul_li, dFdiv_ii, dMod_ii, dPow_ii, dNeg_i, dCmp_ii, dSum_l, dAll_l, dAny_l, dAbs_i, dInt_i, dInt_b, dList_l, dList_t, dTuple_l, dTuple_t, dMax2_ii, dMin2_ii, dAddI_ii, dRev_l, dIx_l, dIx_t, dIx_d, orFail_some, orFail_none, tru_non, ty_non, tru_bl, ty_bl, tru_int, ty_int, tru_str, ty_str, tru_lst, ty_lst, tru_tup, ty_tup, tru_dct, ty_dct, its_lst, items_lst, its_tup, items_tup, isL_l, dIsN, dNotN, if_true, if_false, Bool.not_true, Bool.not_false, true_and, and_true, wipeE, isTy_NoneType_bool, isTy_NoneType_int, isTy_NoneType_str, isTy_NoneType_list, isTy_NoneType_tuple, isTy_NoneType_dict, isTy_bool_bool, isTy_bool_int, isTy_bool_str, isTy_bool_list, isTy_bool_tuple, isTy_bool_dict, isTy_int_bool, isTy_int_int, isTy_int_str, isTy_int_list, isTy_int_tuple, isTy_int_dict, isTy_str_bool, isTy_str_int, isTy_str_str, isTy_str_list, isTy_str_tuple, isTy_str_dict, isTy_list_bool, isTy_list_int, isTy_list_str, isTy_list_list, isTy_list_tuple, isTy_list_dict, isTy_tuple_bool, isTy_tuple_int, isTy_tuple_str, isTy_tuple_list, isTy_tuple_tuple, isTy_tuple_dict, isTy_dict_bool, isTy_dict_int, isTy_dict_str, isTy_dict_list, isTy_dict_tuple, isTy_dict_dict, sMulti_ap, giveE, eSl_ap, pN_ap, pS_ap, dSl_l, dSl_t, isN_non, isN_bl, isN_int, isN_str, isN_lst, isN_tup, isN_dct, isN_fn, isN_row, Bool.or_true, Bool.or_false, Bool.true_or, Bool.false_or, reduceCtorEq, eq_self, ↓reduceIte]
  refine check_places_ap _ rfl (fun _ => ?_) fun z => by rw [within_places hp] at z; cases z
  simp only [ret_ap, bnd_ap, ask_ap, fail_ap, noE_ap, eName_ap, eOwn_ap, eC_ap, e1_ap, e2_ap, e2g_ap, e3_ap, tst_ap, bAnd_ap, bOr_ap, bNot_ap, bYes_ap, vAnd_ap, vOr_ap, vNot_ap, tru_ap, eIf_ap, aNil_ap, aCons_ap, aStar_ap, eTup_ap, eLst_ap, eTupS_ap, eLstS_ap, eCall_ap, eRef_ap, eIsi_ap, eIsi2_ap, iSeq_ap, iEn_ap, iR1_ap, iR2_ap, iR3_ap, eLc_ap, sNil_ap, sSeq_ap, sFrz_ap, sExpr_ap, sRet_ap, sAsg_ap, sOwn_ap, sIf_ap, sFor_ap, sAug_ap, sApp_ap, sExt_ap, sRaise_ap, gN_ap, gT_ap, gsC_ap, gs0_ap, sq_rt, sq_ex, sq_bk, sq_ct, lp_rt, lp_ex, lp_bk, lp_ct, lp_nx, kS_rt, kS_ex, kS_nx, List.getElem?_cons_zero, List.getElem?_cons_succ, List.set_cons_zero, List.set_cons_succ, Option.bind_some, dLen_lst, dLen_tup, dLen_dct, dLen_str, dAdd_ii, dAdd_ss, dAdd_ll, dAdd_tt, dSub_ii, dMul_ii, dMul_li, dFdiv_ii, dMod_ii, dPow_ii, dNeg_i, dCmp_ii, dSum_l, dAll_l, dAny_l, dAbs_i, dInt_i, dInt_b, dList_l, dList_t, dTuple_l, dTuple_t, dMax2_ii, dMin2_ii, dAddI_ii, dRev_l, dIx_l, dIx_t, dIx_d, orFail_some, orFail_none, tru_non, ty_non, tru_bl, ty_bl, tru_int, ty_int, tru_str, ty_str, tru_lst, ty_lst, tru_tup, ty_tup, tru_dct, ty_dct, its_lst, items_lst, its_tup, items_tup, isL_l, dIsN, dNotN, if_true, if_false, Bool.not_true, Bool.not_false, true_and, and_true, wipeE, isTy_NoneType_bool, isTy_NoneType_int, isTy_NoneType_str, isTy_NoneType_list, isTy_NoneType_tuple, isTy_NoneType_dict, isTy_bool_bool, isTy_bool_int, isTy_bool_str, isTy_bool_list, isTy_bool_tuple, isTy_bool_dict, isTy_int_bool, isTy_int_int, isTy_int_str, isTy_int_list, isTy_int_tuple, isTy_int_dict, isTy_str_bool, isTy_str_int, isTy_str_str, isTy_str_list, isTy_str_tuple, isTy_str_dict, isTy_list_bool, isTy_list_int, isTy_list_str, isTy_list_list, isTy_list_tuple, isTy_list_dict, isTy_tuple_bool, isTy_tuple_int, isTy_tuple_str, isTy_tuple_list, isTy_tuple_tuple, isTy_tuple_dict, isTy_dict_bool, isTy_dict_int, isTy_dict_str, isTy_dict_list, isTy_dict_tuple, isTy_dict_dict, sMulti_ap, giveE, eSl_ap, pN_ap, pS_ap, dSl_l, dSl_t, isN_non, isN_bl, isN_int, isN_str, isN_lst, isN_tup, isN_dct, isN_fn, isN_row, Bool.or_true, Bool.or_false, Bool.true_or, Bool.false_or, reduceCtorEq, eq_self, ↓reduceIte, sq_nx]
  refine told_backs_ap F hL ht hp ?_
  refine away_ap F hL _ (by rw [backs_length]; omega) ?_
  rw [dMax0_ints]
  exact h
end
end K19

set_option maxRecDepth 100000
set_option maxHeartbeats 1000000
namespace K19
open PySem PySem.Spec PyProof.Rows L2 Y
open PySem.W (AllAlike Sortable dataLe dataLt)
/-! ### busy_days -/
def cntN (ds : List Int) (t d : Int) : Nat := ds.countP fun o => decide (d ≤ o) && decide (o < d + t)
structure IsBest (ds : List Int) (t d : Int) : Prop where
  mem : d ∈ ds
  best : ∀ e ∈ ds, cntN ds t e < cntN ds t d ∨ (cntN ds t e = cntN ds t d ∧ d ≤ e)
theorem IsBest.uniq {ds : List Int} {t d e : Int} (h1 : IsBest ds t d) (h2 : IsBest ds t e) : d = e := by
  have a := h1.best e h2.mem
  have b := h2.best d h1.mem
  omega
section
variable {W : List MO} {R : D → List MO → Prop} {E : Exn → List MO → Prop} {ds : List Int} {t : Int}
def rowP (ds : List Int) (t d : Int) : D := .tup [.int (-(cntN ds t d : Nat)), .int d]
theorem minP_best (ds : List Int) (t : Int) : ∀ (as : List Int) (a : Int), ∃ d, minL (rowP ds t a) (as.map (rowP ds t)) = rowP ds t d ∧ d ∈ a :: as ∧ ∀ e ∈ a :: as, cntN ds t e < cntN ds t d ∨ (cntN ds t e = cntN ds t d ∧ d ≤ e)
  | [], a => ⟨a, rfl, List.mem_singleton.mpr rfl, fun e he => by rw [List.mem_singleton.mp he]; omega⟩
  | y :: as, a => by
    have e : minL (rowP ds t a) ((y :: as).map (rowP ds t)) = minL (if dataLt (rowP ds t y).toP (rowP ds t a).toP = true then rowP ds t y else rowP ds t a) (as.map (rowP ds t)) := rfl
    have e2 : dataLt (rowP ds t y).toP (rowP ds t a).toP = decide (-(cntN ds t y : Int) < -(cntN ds t a : Int) ∨ (-(cntN ds t y : Int) = -(cntN ds t a : Int) ∧ y < a)) := PySem.W.dataLt_ii _ _ _ _
    rw [e, e2]
    by_cases h : -(cntN ds t y : Int) < -(cntN ds t a : Int) ∨ (-(cntN ds t y : Int) = -(cntN ds t a : Int) ∧ y < a)
    · rw [if_pos (decide_eq_true h)]
      obtain ⟨d, h1, h2, h3⟩ := minP_best ds t as y
      refine ⟨d, h1, List.mem_cons_of_mem _ h2, fun z hz => ?_⟩
      rcases List.mem_cons.mp hz with rfl | hz
      · have := h3 y List.mem_cons_self; omega
      · exact h3 z hz
    · rw [if_neg (by simpa using h)]
      obtain ⟨d, h1, h2, h3⟩ := minP_best ds t as a
      refine ⟨d, h1, ?_, fun z hz => ?_⟩
      · rcases List.mem_cons.mp h2 with rfl | h2
        · exact List.mem_cons_self
        · exact List.mem_cons_of_mem _ (List.mem_cons_of_mem _ h2)
      · rcases List.mem_cons.mp hz with rfl | hz
        · exact h3 z List.mem_cons_self
        · rcases List.mem_cons.mp hz with rfl | hz
          · have := h3 a List.mem_cons_self; omega
          · exact h3 z (List.mem_cons_of_mem _ hz)
theorem cmpOk_rows (as : List Int) : CmpOk (as.map (rowP ds t)) := by
  refine ⟨fun d hd => ?_, fun d hd e he => ?_⟩
  · obtain ⟨a, _, rfl⟩ := List.mem_map.mp hd
    exact ⟨rfl, fun z => nomatch z⟩
  · obtain ⟨a, _, rfl⟩ := List.mem_map.mp hd
    obtain ⟨b, _, rfl⟩ := List.mem_map.mp he
    rfl
/-- the comprehension that counts -/
theorem cnt_ap {env : Y.Env} {i j k : Nat} {d : Int} {W : List MO} {RL : List D → List MO → Prop} (hi : ∀ x : D, (env.set i (.v x))[i]? = some (.v x)) (hj : ∀ x : D, (env.set i (.v x))[j]? = some (.v (.int d))) (hk : ∀ x : D, (env.set i (.v x))[k]? = some (.v (.int t)))
    (h : ∀ xs : List D, xs.length = cntN ds t d → RL xs W) : compM (gN i) (tst (e3 dLe dLt (eName j) (eName i) (e2 dAdd (eName j) (eName k)))) (eName i) env (ds.map .int) W RL (fun _ _ => False) := by
  refine compM_map (p := fun x => match x with | .int o => decide (d ≤ o) && decide (o < d + t) | _ => false) (g := fun x => x) (fun x hx => ?_) ?_
  · obtain ⟨o, _, rfl⟩ := List.mem_map.mp hx
    refine ⟨_, rfl, fun W RB E h => ?_, fun _ W R E h => ?_⟩
    · simp only [tst_ap, e3_ap, e2_ap, eName_ap, hi, hj, hk]
      simp only [dCmp_ii, ret_ap, dAdd_ii]
      have h : RB (decide (d ≤ o) && decide (o < d + t)) W := h
      by_cases q : d ≤ o
      · rw [decide_eq_true q] at h ⊢
        simpa only [Bool.true_and] using h
      · rw [decide_eq_false q] at h ⊢
        simpa only [Bool.false_and] using h
    · simp only [eName_ap, hi]
      exact h
  · refine h _ ?_
    rw [List.length_map, List.filter_map, List.length_map, ← List.countP_eq_length_filter]
    rfl
theorem busy_days_ap (F : Days ds) {L : D} (hL : L = .lst (ds.map .int) ∨ L = .tup (ds.map .int)) (h1 : 1 ≤ t) (h2 : t ≤ 1000) (h : ∀ d, IsBest ds t d → R (.tup [.int d, .int (d + t - 1)]) W) (h0 : ds = [] → R .non W) : c_busy_days [L, .int t] W R E := by
  show sm_busy_days [.v L, .v (.int t), .no, .no, .no, .no] W (kS R E)
  unfold sm_busy_days
  simp only [ret_ap, bnd_ap, ask_ap, fail_ap, noE_ap, eName_ap, eOwn_ap, eC_ap, e1_ap, e2_ap, e2g_ap, e3_ap, tst_ap, bAnd_ap, bOr_ap, bNot_ap, bYes_ap, vAnd_ap, vOr_ap, vNot_ap, tru_ap, eIf_ap, aNil_ap, aCons_ap, aStar_ap, eTup_ap, eLst_ap, eTupS_ap, eLstS_ap, eCall_ap, eRef_ap, eIsi_ap, eIsi2_ap, iSeq_ap, iEn_ap, iR1_ap, iR2_ap, iR3_ap, eLc_ap, sNil_ap, sSeq_ap, sFrz_ap, sExpr_ap, sRet_ap, sAsg_ap, sOwn_ap, sIf_ap, sFor_ap, sAug_ap, sApp_ap, sExt_ap, sRaise_ap, gN_ap, gT_ap, gsC_ap, gs0_ap, sq_rt, sq_ex, sq_bk, sq_ct, lp_rt, lp_ex, lp_bk, lp_ct, lp_nx, kS_rt, kS_ex, kS_nx, List.getElem?_cons_zero, List.getElem?_cons_succ, List.set_cons_zero, List.set_cons_succ, Option.bind_some, dLen_lst, dLen_tup, dLen_dct, dLen_str, dAdd_ii, dAdd_ss, dAdd_ll, dAdd_tt, dSub_ii, dMul_ii, dMul_li, dFdiv_ii, dMod_ii, dPow_ii, dNeg_i, dCmp_ii, dSum_l, dAll_l, dAny_l, dAbs_i, dInt_i, dInt_b, dList_l, dList_t, dTuple_l, dTuple_t, dMax2_ii, dMin2_ii, dAddI_ii, dRev_l, dIx_l, dIx_t, dIx_d, orFail_some, orFail_none, tru_non, ty_non, tru_bl, ty_bl, tru_int, ty_int, tru_str, ty_str, tru_lst, ty_lst, tru_tup, ty_tup, tru_dct, ty_dct, its_lst, items_lst, its_tup, items_tup, isL_l, dIsN, dNotN, if_true, if_false, Bool.not_true, Bool.not_false, true_and, and_true, wipeE, isTy_NoneType_bool, isTy_NoneType_int, isTy_NoneType_str, isTy_NoneType_list, isTy_NoneType_tuple, isTy_NoneType_dict, isTy_bool_bool, isTy_bool_int, isTy_bool_str, isTy_bool_list, isTy_bool_tuple, isTy_bool_dict, isTy_int_bool, isTy_int_int, isTy_int_str, isTy_int_list, isTy_int_tuple, isTy_int_dict, isTy_str_bool, isTy_str_int, isTy_str_str, isTy_str_list, isTy_str_tuple, isTy_str_dict, isTy_list_bool, isTy_list_int, isTy_list_str, isTy_list_list, isTy_list_tuple, isTy_list_dict, isTy_tuple_bool, isTy_tuple_int, isTy_tuple_str, isTy_tuple_list, isTy_tuple_tuple, isTy_tuple_dict, isTy_dict_bool, isTy_dict_int, isTy_dict_str, isTy_dict_list, isTy_dict_tuple, isTy_dict_dict, sMulti_ap, giveE, eSl_ap, pN_ap, pS_ap, dSl_l, dSl_t, isN_non, isN_bl, isN_int, isN_str, isN_lst, isN_tup, isN_dct, isN_fn, isN_row, Bool.or_true, Bool.or_false, Bool.true_or, Bool.false_or, reduceCtorEq, eq_self, ↓reduceIte]
  refine days_fine F hL h1 h2 ?_
  have rows : ∀ (RL : List D → List MO → Prop), RL (ds.map (rowP ds t)) W → compM (gN 4) bYes (eTup (aCons (e1 dNeg (e1 dLen (eLc [5] (gN 5) (tst (e3 dLe dLt (eName 4) (eName 5) (e2 dAdd (eName 4) (eName 1)))) (eName 5) (iSeq (eName 0))))) (aCons (eName 4) aNil))) [.v L, .v (.int t), .no, .no, .no, .no] (ds.map .int) W RL (fun _ _ => False) := fun RL hR => by
    refine compM_map1 (g := fun d => match d with | .int d => rowP ds t d | d => d) (fun d hd => ?_) ?_
    · obtain ⟨d, _, rfl⟩ := List.mem_map.mp hd
      refine ⟨_, rfl, fun W R E h => ?_⟩
      rcases hL with rfl | rfl <;>
      · simp only [ret_ap, bnd_ap, ask_ap, fail_ap, noE_ap, eName_ap, eOwn_ap, eC_ap, e1_ap, e2_ap, e2g_ap, e3_ap, tst_ap, bAnd_ap, bOr_ap, bNot_ap, bYes_ap, vAnd_ap, vOr_ap, vNot_ap, tru_ap, eIf_ap, aNil_ap, aCons_ap, aStar_ap, eTup_ap, eLst_ap, eTupS_ap, eLstS_ap, eCall_ap, eRef_ap, eIsi_ap, eIsi2_ap, iSeq_ap, iEn_ap, iR1_ap, iR2_ap, iR3_ap, eLc_ap, sNil_ap, sSeq_ap, sFrz_ap, sExpr_ap, sRet_ap, sAsg_ap, sOwn_ap, sIf_ap, sFor_ap, sAug_ap, sApp_ap, sExt_ap, sRaise_ap, gN_ap, gT_ap, gsC_ap, gs0_ap, sq_rt, sq_ex, sq_bk, sq_ct, lp_rt, lp_ex, lp_bk, lp_ct, lp_nx, kS_rt, kS_ex, kS_nx, List.getElem?_cons_zero, List.getElem?_cons_succ, List.set_cons_zero, List.set_cons_succ, Option.bind_some, dLen_lst, dLen_tup, dLen_dct, dLen_str, dAdd_ii, dAdd_ss, dAdd_ll, dAdd_tt, dSub_ii, dMul_ii, dMul_li, dFdiv_ii, dMod_ii, dPow_ii, dNeg_i, dCmp_ii, dSum_l, dAll_l, dAny_l, dAbs_i, dInt_i, dInt_b, dList_l, dList_t, dTuple_l, dTuple_t, dMax2_ii, dMin2_ii, dAddI_ii, dRev_l, dIx_l, dIx_t, dIx_d, orFail_some, orFail_none, tru_non, ty_non, tru_bl, ty_bl, tru_int, ty_int, tru_str, ty_str, tru_lst, ty_lst, tru_tup, ty_tup, tru_dct, ty_dct, its_lst, items_lst, its_tup, items_tup, isL_l, dIsN, dNotN, if_true, if_false, Bool.not_true, Bool.not_false, true_and, and_true, wipeE, isTy_NoneType_bool, isTy_NoneType_int, isTy_NoneType_str, isTy_NoneType_list, isTy_NoneType_tuple, isTy_NoneType_dict, isTy_bool_bool, isTy_bool_int, isTy_bool_str, isTy_bool_list, isTy_bool_tuple, isTy_bool_dict, isTy_int_bool, isTy_int_int, isTy_int_str, isTy_int_list, isTy_int_tuple, isTy_int_dict, isTy_str_bool, isTy_str_int, isTy_str_str, isTy_str_list, isTy_str_tuple, isTy_str_dict, isTy_list_bool, isTy_list_int, isTy_list_str, isTy_list_list, isTy_list_tuple, isTy_list_dict, isTy_tuple_bool, isTy_tuple_int, isTy_tuple_str, isTy_tuple_list, isTy_tuple_tuple, isTy_tuple_dict, isTy_dict_bool, isTy_dict_int, isTy_dict_str, isTy_dict_list, isTy_dict_tuple, isTy_dict_dict, sMulti_ap, giveE, eSl_ap, pN_ap, pS_ap, dSl_l, dSl_t, isN_non, isN_bl, isN_int, isN_str, isN_lst, isN_tup, isN_dct, isN_fn, isN_row, Bool.or_true, Bool.or_false, Bool.true_or, Bool.false_or, reduceCtorEq, eq_self, ↓reduceIte]
        refine cnt_ap (fun _ => rfl) (fun _ => rfl) (fun _ => rfl) fun xs hx => ?_
        simp only [ret_ap, bnd_ap, ask_ap, fail_ap, noE_ap, eName_ap, eOwn_ap, eC_ap, e1_ap, e2_ap, e2g_ap, e3_ap, tst_ap, bAnd_ap, bOr_ap, bNot_ap, bYes_ap, vAnd_ap, vOr_ap, vNot_ap, tru_ap, eIf_ap, aNil_ap, aCons_ap, aStar_ap, eTup_ap, eLst_ap, eTupS_ap, eLstS_ap, eCall_ap, eRef_ap, eIsi_ap, eIsi2_ap, iSeq_ap, iEn_ap, iR1_ap, iR2_ap, iR3_ap, eLc_ap, sNil_ap, sSeq_ap, sFrz_ap, sExpr_ap, sRet_ap, sAsg_ap, sOwn_ap, sIf_ap, sFor_ap, sAug_ap, sApp_ap, sExt_ap, sRaise_ap, gN_ap, gT_ap, gsC_ap, gs0_ap, sq_rt, sq_ex, sq_bk, sq_ct, lp_rt, lp_ex, lp_bk, lp_ct, lp_nx, kS_rt, kS_ex, kS_nx, List.getElem?_cons_zero, List.getElem?_cons_succ, List.set_cons_zero, List.set_cons_succ, Option.bind_some, dLen_lst, dLen_tup, dLen_dct, dLen_str, dAdd_ii, dAdd_ss, dAdd_ll, dAdd_tt, dSub_ii, dMul_ii, dMul_li, dFdiv_ii, dMod_ii, dPow_ii, dNeg_i, dCmp_ii, dSum_l, dAll_l, dAny_l, dAbs_i, dInt_i, dInt_b, dList_l, dList_t, dTuple_l, dTuple_t, dMax2_ii, dMin2_ii, dAddI_ii, dRev_l, dIx_l, dIx_t, dIx_d, orFail_some, orFail_none, tru_non, ty_non, tru_bl, ty_bl, tru_int, ty_int, tru_str, ty_str, tru_lst, ty_lst, tru_tup, ty_tup, tru_dct, ty_dct, its_lst, items_lst, its_tup, items_tup, isL_l, dIsN, dNotN, if_true, if_false, Bool.not_true, Bool.not_false, true_and, and_true, wipeE, isTy_NoneType_bool, isTy_NoneType_int, isTy_NoneType_str, isTy_NoneType_list, isTy_NoneType_tuple, isTy_NoneType_dict, isTy_bool_bool, isTy_bool_int, isTy_bool_str, isTy_bool_list, isTy_bool_tuple, isTy_bool_dict, isTy_int_bool, isTy_int_int, isTy_int_str, isTy_int_list, isTy_int_tuple, isTy_int_dict, isTy_str_bool, isTy_str_int, isTy_str_str, isTy_str_list, isTy_str_tuple, isTy_str_dict, isTy_list_bool, isTy_list_int, isTy_list_str, isTy_list_list, isTy_list_tuple, isTy_list_dict, isTy_tuple_bool, isTy_tuple_int, isTy_tuple_str, isTy_tuple_list, isTy_tuple_tuple, isTy_tuple_dict, isTy_dict_bool, isTy_dict_int, isTy_dict_str, isTy_dict_list, isTy_dict_tuple, isTy_dict_dict, sMulti_ap, giveE, eSl_ap, pN_ap, pS_ap, dSl_l, dSl_t, isN_non, isN_bl, isN_int, isN_str, isN_lst, isN_tup, isN_dct, isN_fn, isN_row, Bool.or_true, Bool.or_false, Bool.true_or, Bool.false_or, reduceCtorEq, eq_self, ↓reduceIte, hx]
        exact h
    · rw [List.map_map]
      exact hR
  have tail : (sIf (bNot (tru (eName 2))) (sRet (eC .non)) sNil) [.v L, .v (.int t), .v (.lst (ds.map (rowP ds t))), .no, .no, .no] W ((kS R E).sq (sSeq (sAsg (gN 3) (e2 dIx (e1 dMin (eName 2)) (eC (.int 1)))) (sRet (eTup (aCons (eName 3) (aCons (e2 dSub (e2 dAdd (eName 3) (eName 1)) (eC (.int 1))) aNil)))))) := by
    cases hd : ds with
    | nil =>
      simp only [ret_ap, bnd_ap, ask_ap, fail_ap, noE_ap, eName_ap, eOwn_ap, eC_ap, e1_ap, e2_ap, e2g_ap, e3_ap, tst_ap, bAnd_ap, bOr_ap, bNot_ap, bYes_ap, vAnd_ap, vOr_ap, vNot_ap, tru_ap, eIf_ap, aNil_ap, aCons_ap, aStar_ap, eTup_ap, eLst_ap, eTupS_ap, eLstS_ap, eCall_ap, eRef_ap, eIsi_ap, eIsi2_ap, iSeq_ap, iEn_ap, iR1_ap, iR2_ap, iR3_ap, eLc_ap, sNil_ap, sSeq_ap, sFrz_ap, sExpr_ap, sRet_ap, sAsg_ap, sOwn_ap, sIf_ap, sFor_ap, sAug_ap, sApp_ap, sExt_ap, sRaise_ap, gN_ap, gT_ap, gsC_ap, gs0_ap, sq_rt, sq_ex, sq_bk, sq_ct, lp_rt, lp_ex, lp_bk, lp_ct, lp_nx, kS_rt, kS_ex, kS_nx, List.getElem?_cons_zero, List.getElem?_cons_succ, List.set_cons_zero, List.set_cons_succ, Option.bind_some, dLen_lst, dLen_tup, dLen_dct, dLen_str, dAdd_ii, dAdd_ss, dAdd_ll, dAdd_tt, dSub_ii, dMul_ii, dMul_li, dFdiv_ii, dMod_ii, dPow_ii, dNeg_i, dCmp_ii, dSum_l, dAll_l, dAny_l, dAbs_i, dInt_i, dInt_b, dList_l, dList_t, dTuple_l, dTuple_t, dMax2_ii, dMin2_ii, dAddI_ii, dRev_l, dIx_l, dIx_t, dIx_d, orFail_some, orFail_none, tru_non, ty_non, tru_bl, ty_bl, tru_int, ty_int, tru_str, ty_str, tru_lst, ty_lst, tru_tup, ty_tup, tru_dct, ty_dct, its_lst, items_lst, its_tup, items_tup, isL_l, dIsN, dNotN, if_true, if_false, Bool.not_true, Bool.not_false, true_and, and_true, wipeE, isTy_NoneType_bool, isTy_NoneType_int, isTy_NoneType_str, isTy_NoneType_list, isTy_NoneType_tuple, isTy_NoneType_dict, isTy_bool_bool, isTy_bool_int, isTy_bool_str, isTy_bool_list, isTy_bool_tuple, isTy_bool_dict, isTy_int_bool, isTy_int_int, isTy_int_str, isTy_int_list, isTy_int_tuple, isTy_int_dict, isTy_str_bool, isTy_str_int, isTy_str_str, isTy_str_list, isTy_str_tuple, isTy_str_dict, isTy_list_bool, isTy_list_int, isTy_list_str, isTy_list_list, isTy_list_tuple, isTy_list_dict, isTy_tuple_bool, isTy_tuple_int, isTy_tuple_str, isTy_tuple_list, isTy_tuple_tuple, isTy_tuple_dict, isTy_dict_bool, isTy_dict_int, isTy_dict_str, isTy_dict_list, isTy_dict_tuple, isTy_dict_dict, sMulti_ap, giveE, eSl_ap, pN_ap, pS_ap, dSl_l, dSl_t, isN_non, isN_bl, isN_int, isN_str, isN_lst, isN_tup, isN_dct, isN_fn, isN_row, Bool.or_true, Bool.or_false, Bool.true_or, Bool.false_or, reduceCtorEq, eq_self, ↓reduceIte, List.map_nil, List.isEmpty_nil]
      exact h0 hd
    | cons a as =>
      simp only [ret_ap, bnd_ap, ask_ap, fail_ap, noE_ap, eName_ap, eOwn_ap, eC_ap, e1_ap, e2_ap, e2g_ap, e3_ap, tst_ap, bAnd_ap, bOr_ap, bNot_ap, bYes_ap, vAnd_ap, vOr_ap, vNot_ap, tru_ap, eIf_ap, aNil_ap, aCons_ap, aStar_ap, eTup_ap, eLst_ap, eTupS_ap, eLstS_ap, eCall_ap, eRef_ap, eIsi_ap, eIsi2_ap, iSeq_ap, iEn_ap, iR1_ap, iR2_ap, iR3_ap, eLc_ap, sNil_ap, sSeq_ap, sFrz_ap, sExpr_ap, sRet_ap, sAsg_ap, sOwn_ap, sIf_ap, sFor_ap, sAug_ap, sApp_ap, sExt_ap, sRaise_ap, gN_ap, gT_ap, gsC_ap, gs0_ap, sq_rt, sq_ex, sq_bk, sq_ct, lp_rt, lp_ex, lp_bk, lp_ct, lp_nx, kS_rt, kS_ex, kS_nx, List.getElem?_cons_zero, List.getElem?_cons_succ, List.set_cons_zero, List.set_cons_succ, Option.bind_some, dLen_lst, dLen_tup, dLen_dct, dLen_str, dAdd_ii, dAdd_ss, dAdd_ll, dAdd_tt, dSub_ii, dMul_ii, dMul_li, dFdiv_ii, dMod_ii, dPow_ii, dNeg_i, dCmp_ii, dSum_l, dAll_l, dAny_l, dAbs_i, dInt_i, dInt_b, dList_l, dList_t, dTuple_l, dTuple_t, dMax2_ii, dMin2_ii, dAddI_ii, dRev_l, dIx_l, dIx_t, dIx_d, orFail_some, orFail_none, tru_non, ty_non, tru_bl, ty_bl, tru_int, ty_int, tru_str, ty_str, tru_lst, ty_lst, tru_tup, ty_tup, tru_dct, ty_dct, its_lst, items_lst, its_tup, items_tup, isL_l, dIsN, dNotN, if_true, if_false, Bool.not_true, Bool.not_false, true_and, and_true, wipeE, isTy_NoneType_bool, isTy_NoneType_int, isTy_NoneType_str, isTy_NoneType_list, isTy_NoneType_tuple, isTy_NoneType_dict, isTy_bool_bool, isTy_bool_int, isTy_bool_str, isTy_bool_list, isTy_bool_tuple, isTy_bool_dict, isTy_int_bool, isTy_int_int, isTy_int_str, isTy_int_list, isTy_int_tuple, isTy_int_dict, isTy_str_bool, isTy_str_int, isTy_str_str, isTy_str_list, isTy_str_tuple, isTy_str_dict, isTy_list_bool, isTy_list_int, isTy_list_str, isTy_list_list, isTy_list_tuple, isTy_list_dict, isTy_tuple_bool, isTy_tuple_int, isTy_tuple_str, isTy_tuple_list, isTy_tuple_tuple, isTy_tuple_dict, isTy_dict_bool, isTy_dict_int, isTy_dict_str, isTy_dict_list, isTy_dict_tuple, isTy_dict_dict, sMulti_ap, giveE, eSl_ap, pN_ap, pS_ap, dSl_l, dSl_t, isN_non, isN_bl, isN_int, isN_str, isN_lst, isN_tup, isN_dct, isN_fn, isN_row, Bool.or_true, Bool.or_false, Bool.true_or, Bool.false_or, reduceCtorEq, eq_self, ↓reduceIte, sq_nx, List.map_cons, List.isEmpty_cons]
      obtain ⟨d, e1, e2, e3⟩ := minP_best ds t as a
      rw [← hd]
      refine ⟨cmpOk_rows (a :: as), ?_⟩
      rw [e1]
      have a1 : ∀ x y : D, atI [x, y] 1 = some y := fun _ _ => rfl
      unfold rowP
      simp only [ret_ap, bnd_ap, ask_ap, fail_ap, noE_ap, eName_ap, eOwn_ap, eC_ap, e1_ap, e2_ap, e2g_ap, e3_ap, tst_ap, bAnd_ap, bOr_ap, bNot_ap, bYes_ap, vAnd_ap, vOr_ap, vNot_ap, tru_ap, eIf_ap, aNil_ap, aCons_ap, aStar_ap, eTup_ap, eLst_ap, eTupS_ap, eLstS_ap, eCall_ap, eRef_ap, eIsi_ap, eIsi2_ap, iSeq_ap, iEn_ap, iR1_ap, iR2_ap, iR3_ap, eLc_ap, sNil_ap, sSeq_ap, sFrz_ap, sExpr_ap, sRet_ap, sAsg_ap, sOwn_ap, sIf_ap, sFor_ap, sAug_ap, sApp_ap, sExt_ap, sRaise_ap, gN_ap, gT_ap, gsC_ap, gs0_ap, sq_rt, sq_ex, sq_bk, sq_ct, lp_rt, lp_ex, lp_bk, lp_ct, lp_nx, kS_rt, kS_ex, kS_nx, List.getElem?_cons_zero, List.getElem?_cons_succ, List.set_cons_zero, List.set_cons_succ, Option.bind_some, dLen_lst, dLen_tup, dLen_dct, dLen_str, dAdd_ii, dAdd_ss, dAdd_ll, dAdd_tt, dSub_ii, dMul_ii, dMul_li, dFdiv_ii, dMod_ii, dPow_ii, dNeg_i, dCmp_ii, dSum_l, dAll_l, dAny_l, dAbs_i, dInt_i, dInt_b, dList_l, dList_t, dTuple_l, dTuple_t, dMax2_ii, dMin2_ii, dAddI_ii, dRev_l, dIx_l, dIx_t, dIx_d, orFail_some, orFail_none, tru_non, ty_non, tru_bl, ty_bl, tru_int, ty_int, tru_str, ty_str, tru_lst, ty_lst, tru_tup, ty_tup, tru_dct, ty_dct, its_lst, items_lst, its_tup, items_tup, isL_l, dIsN, dNotN, if_true, if_false, Bool.not_true, Bool.not_false, true_and, and_true, wipeE, isTy_NoneType_bool, isTy_NoneType_int, isTy_NoneType_str, isTy_NoneType_list, isTy_NoneType_tuple, isTy_NoneType_dict, isTy_bool_bool, isTy_bool_int, isTy_bool_str, isTy_bool_list, isTy_bool_tuple, isTy_bool_dict, isTy_int_bool, isTy_int_int, isTy_int_str, isTy_int_list, isTy_int_tuple, isTy_int_dict, isTy_str_bool, isTy_str_int, isTy_str_str, isTy_str_list, isTy_str_tuple, isTy_str_dict, isTy_list_bool, isTy_list_int, isTy_list_str, isTy_list_list, isTy_list_tuple, isTy_list_dict, isTy_tuple_bool, isTy_tuple_int, isTy_tuple_str, isTy_tuple_list, isTy_tuple_tuple, isTy_tuple_dict, isTy_dict_bool, isTy_dict_int, isTy_dict_str, isTy_dict_list, isTy_dict_tuple, isTy_dict_dict, sMulti_ap, giveE, eSl_ap, pN_ap, pS_ap, dSl_l, dSl_t, isN_non, isN_bl, isN_int, isN_str, isN_lst, isN_tup, isN_dct, isN_fn, isN_row, Bool.or_true, Bool.or_false, Bool.true_or, Bool.false_or, reduceCtorEq, eq_self, ↓reduceIte, sq_nx, a1]
      refine h d ⟨by rw [hd]; exact e2, fun e he => e3 e (by rw [← hd]; exact he)⟩
  rcases hL with rfl | rfl <;>
  · simp only [sq_nx, sSeq_ap, sAsg_ap, eLc_ap, iSeq_ap, eName_ap, its_lst, its_tup, List.getElem?_cons_zero, List.getElem?_cons_succ, List.set_cons_zero, List.set_cons_succ, wipeE, gN_ap]
    refine rows _ ?_
    exact tail
/-! ### the law's own going through -/
def firstI (aw : List Int) (s : Int) : D := match aw.findIdx? (fun a => decide (s < a)) with
  | some i => .int (i : Nat)
  | none => .int (-1)
theorem take_filter (bs : List Int) (i : Nat) (v : Int) : awayN ds bs i = ((bs.take (i + 1)).filter fun b => decide (ds.getD i 0 < b)).length := by
  unfold awayN
  rw [List.countP_eq_length_filter]
theorem law_first_ap (F : Days ds) (bs : List Int) (hb : bs.length = ds.length) (hg : ∀ i, i < ds.length → ds.getD i 0 < bs.getD i 0) {s : Int} (hs : 0 ≤ s) (hs2 : s ≤ 1000) (h : R (firstI (awayI ds bs) s) W) : c_law_first [intsD ds, intsD bs, .int s] W R E := by
  have f60 := F.len
  show sm_law_first [.v (intsD ds), .v (intsD bs), .v (.int s), .no, .no, .no, .no, .no, .no] W (kS R E)
  unfold sm_law_first
  simp only [ret_ap, bnd_ap, ask_ap, fail_ap, noE_ap, eName_ap, eOwn_ap, eC_ap, e1_ap, e2_ap, e2g_ap, e3_ap, tst_ap, bAnd_ap, bOr_ap, bNot_ap, bYes_ap, vAnd_ap, vOr_ap, vNot_ap, tru_ap, eIf_ap, aNil_ap, aCons_ap, aStar_ap, eTup_ap, eLst_ap, eTupS_ap, eLstS_ap, eCall_ap, eRef_ap, eIsi_ap, eIsi2_ap, iSeq_ap, iEn_ap, iR1_ap, iR2_ap, iR3_ap, eLc_ap, sNil_ap, sSeq_ap, sFrz_ap, sExpr_ap, sRet_ap, sAsg_ap, sOwn_ap, sIf_ap, sFor_ap, sAug_ap, sApp_ap, sExt_ap, sRaise_ap, gN_ap, gT_ap, gsC_ap, gs0_ap, sq_rt, sq_ex, sq_bk, sq_ct, lp_rt, lp_ex, lp_bk, lp_ct, lp_nx, kS_rt, kS_ex, kS_nx, List.getElem?_cons_zero, List.getElem?_cons_succ, List.set_cons_zero, List.set_cons_succ, Option.bind_some, dLen_lst, dLen_tup, dLen_dct, dLen_str, dAdd_ii, dAdd_ss, dAdd_ll, dAdd_tt, dSub_ii, dMul_ii, dMul_li, dFdiv_ii, dMod_ii, dPow_ii, dNeg_i, dCmp_ii, dSum_l, dAll_l, dAny_l, dAbs_i, dInt_i, dInt_b, dList_l, dList_t, dTuple_l, dTuple_t, dMax2_ii, dMin2_ii, dAddI_ii, dRev_l, dIx_l, dIx_t, dIx_d, orFail_some, orFail_none, tru_non, ty_non, tru_bl, ty_bl, tru_int, ty_int, tru_str, ty_str, tru_lst, ty_lst, tru_tup, ty_tup, tru_dct, ty_dct, its_lst, items_lst, its_tup, items_tup, isL_l, dIsN, dNotN, if_true, if_false, Bool.not_true, Bool.not_false, true_and, and_true, wipeE, isTy_NoneType_bool, isTy_NoneType_int, isTy_NoneType_str, isTy_NoneType_list, isTy_NoneType_tuple, isTy_NoneType_dict, isTy_bool_bool, isTy_bool_int, isTy_bool_str, isTy_bool_list, isTy_bool_tuple, isTy_bool_dict, isTy_int_bool, isTy_int_int, isTy_int_str, isTy_int_list, isTy_int_tuple, isTy_int_dict, isTy_str_bool, isTy_str_int, isTy_str_str, isTy_str_list, isTy_str_tuple, isTy_str_dict, isTy_list_bool, isTy_list_int, isTy_list_str, isTy_list_list, isTy_list_tuple, isTy_list_dict, isTy_tuple_bool, isTy_tuple_int, isTy_tuple_str, isTy_tuple_list, isTy_tuple_tuple, isTy_tuple_dict, isTy_dict_bool, isTy_dict_int, isTy_dict_str, isTy_dict_list, isTy_dict_tuple, isTy_dict_dict, sMulti_ap, giveE, eSl_ap, pN_ap, pS_ap, dSl_l, dSl_t, isN_non, isN_bl, isN_int, isN_str, isN_lst, isN_tup, isN_dct, isN_fn, isN_row, Bool.or_true, Bool.or_false, Bool.true_or, Bool.false_or, reduceCtorEq, eq_self, ↓reduceIte, sq_nx]
  refine forM_inv (fun i e w => ∃ (wt : List Int) (left : Int) (a b c : Sl), left + wt.length = s ∧ (∀ v, (i = 0 ∨ ds.getD (i - 1) 0 ≤ v) → wt.filter (fun b => decide (v < b)) = (bs.take i).filter fun b => decide (v < b)) ∧ (∀ j, j < i → awayN ds bs j ≤ s) ∧
    e = [.v (intsD ds), .v (intsD bs), .v (.int s), .v (.int left), .o (intsD wt), a, b, c, .no] ∧ w = W) ⟨[], s, _, _, _, by simp, (fun v _ => by simp), (fun j hj => by omega), rfl, rfl⟩ ?_ ?_
  · rintro i d e w P hd ⟨wt, left, a, b, c, hl, hw, hj, rfl, rfl⟩ hP
    rw [enumD_get, List.getElem?_map] at hd
    cases q : ds[i]? with
    | none => rw [q] at hd; cases hd
    | some v =>
      rw [q] at hd
      cases hd
      obtain ⟨hlt, hv⟩ := List.getElem?_eq_some_iff.mp q
      have ev : ds.getD i 0 = v := by rw [List.getD_eq_getElem?_getD, q]; rfl
      have ew := hw v (by
        by_cases h0 : i = 0
        · exact .inl h0
        · right
          have := F.le (show i - 1 ≤ i by omega) hlt
          omega)
      generalize hw' : wt.filter (fun b => decide (v < b)) = wt' at ew
      have ec : (wt.filter fun b => decide (b ≤ v)).length + wt'.length = wt.length := by
        rw [← hw']
        clear hw' ew hw hl hP
        induction wt with
        | nil => rfl
        | cons x xs ih =>
          rw [List.filter_cons, List.filter_cons]
          by_cases hx : v < x
          · rw [if_neg (by simp; omega), if_pos (decide_eq_true hx)]
            simp only [List.length_cons]
            omega
          · rw [if_pos (decide_eq_true (show x ≤ v by omega)), if_neg (by simpa using hx)]
            simp only [List.length_cons]
            omega
      have ea : awayN ds bs i = (wt'.length : Nat) + 1 := by
        rw [take_filter bs i v, ev, List.take_add_one, List.filter_append, ← ew, List.getElem?_eq_getElem (by omega)]
        have : v < bs[i]'(by omega) := by
          have := hg i hlt
          rw [ev, List.getD_eq_getElem?_getD, List.getElem?_eq_getElem (by omega)] at this
          exact this
        rw [show (some (bs[i]'(by omega))).toList = [bs[i]'(by omega)] from rfl, List.filter_cons, if_pos (decide_eq_true this), List.filter_nil, List.length_append]
        simp
      have hle : (wt'.length : Int) ≤ s := by
        by_cases h0 : i = 0
        · subst h0
          rw [ew]
          simp
          exact hs
        · have z := hj (i - 1) (by omega)
          rw [take_filter bs (i - 1) v, show i - 1 + 1 = i by omega] at z
          have : ((bs.take i).filter fun b => decide (v < b)).length ≤ ((bs.take i).filter fun b => decide (ds.getD (i - 1) 0 < b)).length := by
            rw [← List.countP_eq_length_filter, ← List.countP_eq_length_filter]
            refine List.countP_mono_left fun b _ hb => decide_eq_true ?_
            have := of_decide_eq_true hb
            have := F.le (show i - 1 ≤ i by omega) hlt
            omega
          rw [ew]
          omega
      have comp : ∀ (pf : Int → Bool) (cf : Y.Env → M Bool) (env : Y.Env) (RL : List D → List MO → Prop), (∀ x : D, (env.set 8 (.v x))[8]? = some (.v x)) → (∀ (x : Int) (W : List MO) (RB : Bool → List MO → Prop) (E : Exn → List MO → Prop), RB (pf x) W → cf (env.set 8 (.v (.int x))) W RB E) → RL ((wt.filter pf).map .int) w → compM (gN 8) cf (eName 8) env (wt.map .int) w RL (fun _ _ => False) := fun pf cf env RL h8 hc hR => by
        refine compM_map (p := fun x => match x with | .int o => pf o | _ => false) (g := fun x => x) (fun x hx => ?_) ?_
        · obtain ⟨o, _, rfl⟩ := List.mem_map.mp hx
          refine ⟨_, rfl, fun W RB E h => hc o W RB E h, fun _ W R E h => ?_⟩
          simp only [eName_ap, h8]
          exact h
        · rw [List.map_id', List.filter_map]
          exact hR
      refine ⟨_, rfl, ?_⟩
      simp only [ret_ap, bnd_ap, ask_ap, fail_ap, noE_ap, eName_ap, eOwn_ap, eC_ap, e1_ap, e2_ap, e2g_ap, e3_ap, tst_ap, bAnd_ap, bOr_ap, bNot_ap, bYes_ap, vAnd_ap, vOr_ap, vNot_ap, tru_ap, eIf_ap, aNil_ap, aCons_ap, aStar_ap, eTup_ap, eLst_ap, eTupS_ap, eLstS_ap, eCall_ap, eRef_ap, eIsi_ap, eIsi2_ap, iSeq_ap, iEn_ap, iR1_ap, iR2_ap, iR3_ap, eLc_ap, sNil_ap, sSeq_ap, sFrz_ap, sExpr_ap, sRet_ap, sAsg_ap, sOwn_ap, sIf_ap, sFor_ap, sAug_ap, sApp_ap, sExt_ap, sRaise_ap, gN_ap, gT_ap, gsC_ap, gs0_ap, sq_rt, sq_ex, sq_bk, sq_ct, lp_rt, lp_ex, lp_bk, lp_ct, lp_nx, kS_rt, kS_ex, kS_nx, List.getElem?_cons_zero, List.getElem?_cons_succ, List.set_cons_zero, List.set_cons_succ, Option.bind_some, dLen_lst, dLen_tup, dLen_dct, dLen_str, dAdd_ii, dAdd_ss, dAdd_ll, dAdd_tt, dSub_ii, dMul_ii, dMul_li, dFdiv_ii, dMod_ii, dPow_ii, dNeg_i, dCmp_ii, dSum_l, dAll_l, dAny_l, dAbs_i, dInt_i, dInt_b, dList_l, dList_t, dTuple_l, dTuple_t, dMax2_ii, dMin2_ii, dAddI_ii, dRev_l, dIx_l, dIx_t, dIx_d, orFail_some, orFail_none, tru_non, ty_non, tru_bl, ty_bl, tru_int, ty_int, tru_str, ty_str, tru_lst, ty_lst, tru_tup, ty_tup, tru_dct, ty_dct, its_lst, items_lst, its_tup, items_tup, isL_l, dIsN, dNotN, if_true, if_false, Bool.not_true, Bool.not_false, true_and, and_true, wipeE, isTy_NoneType_bool, isTy_NoneType_int, isTy_NoneType_str, isTy_NoneType_list, isTy_NoneType_tuple, isTy_NoneType_dict, isTy_bool_bool, isTy_bool_int, isTy_bool_str, isTy_bool_list, isTy_bool_tuple, isTy_bool_dict, isTy_int_bool, isTy_int_int, isTy_int_str, isTy_int_list, isTy_int_tuple, isTy_int_dict, isTy_str_bool, isTy_str_int, isTy_str_str, isTy_str_list, isTy_str_tuple, isTy_str_dict, isTy_list_bool, isTy_list_int, isTy_list_str, isTy_list_list, isTy_list_tuple, isTy_list_dict, isTy_tuple_bool, isTy_tuple_int, isTy_tuple_str, isTy_tuple_list, isTy_tuple_tuple, isTy_tuple_dict, isTy_dict_bool, isTy_dict_int, isTy_dict_str, isTy_dict_list, isTy_dict_tuple, isTy_dict_dict, sMulti_ap, giveE, eSl_ap, pN_ap, pS_ap, dSl_l, dSl_t, isN_non, isN_bl, isN_int, isN_str, isN_lst, isN_tup, isN_dct, isN_fn, isN_row, Bool.or_true, Bool.or_false, Bool.true_or, Bool.false_or, reduceCtorEq, eq_self, ↓reduceIte]
      refine comp (fun b => decide (b ≤ v)) _ _ _ (fun _ => rfl) (fun x W RB E h => by simp only [ret_ap, bnd_ap, ask_ap, fail_ap, noE_ap, eName_ap, eOwn_ap, eC_ap, e1_ap, e2_ap, e2g_ap, e3_ap, tst_ap, bAnd_ap, bOr_ap, bNot_ap, bYes_ap, vAnd_ap, vOr_ap, vNot_ap, tru_ap, eIf_ap, aNil_ap, aCons_ap, aStar_ap, eTup_ap, eLst_ap, eTupS_ap, eLstS_ap, eCall_ap, eRef_ap, eIsi_ap, eIsi2_ap, iSeq_ap, iEn_ap, iR1_ap, iR2_ap, iR3_ap, eLc_ap, sNil_ap, sSeq_ap, sFrz_ap, sExpr_ap, sRet_ap, sAsg_ap, sOwn_ap, sIf_ap, sFor_ap, sAug_ap, sApp_ap, sExt_ap, sRaise_ap, gN_ap, gT_ap, gsC_ap, gs0_ap, sq_rt, sq_ex, sq_bk, sq_ct, lp_rt, lp_ex, lp_bk, lp_ct, lp_nx, kS_rt, kS_ex, kS_nx, List.getElem?_cons_zero, List.getElem?_cons_succ, List.set_cons_zero, List.set_cons_succ, Option.bind_some, dLen_lst, dLen_tup, dLen_dct, dLen_str, dAdd_ii, dAdd_ss, dAdd_ll, dAdd_tt, dSub_ii, dMul_ii, dMul_li, dFdiv_ii, dMod_ii, dPow_ii, dNeg_i, dCmp_ii, dSum_l, dAll_l, dAny_l, dAbs_i, dInt_i, dInt_b, dList_l, dList_t, dTuple_l, dTuple_t, dMax2_ii, dMin2_ii, dAddI_ii, dRev_l, dIx_l, dIx_t, dIx_d, orFail_some, orFail_none, tru_non, ty_non, tru_bl, ty_bl, tru_int, ty_int, tru_str, ty_str, tru_lst, ty_lst, tru_tup, ty_tup, tru_dct, ty_dct, its_lst, items_lst, its_tup, items_tup, isL_l, dIsN, dNotN, if_true, if_false, Bool.not_true, Bool.not_false, true_and, and_true, wipeE, isTy_NoneType_bool, isTy_NoneType_int, isTy_NoneType_str, isTy_NoneType_list, isTy_NoneType_tuple, isTy_NoneType_dict, isTy_bool_bool, isTy_bool_int, isTy_bool_str, isTy_bool_list, isTy_bool_tuple, isTy_bool_dict, isTy_int_bool, isTy_int_int, isTy_int_str, isTy_int_list, isTy_int_tuple, isTy_int_dict, isTy_str_bool, isTy_str_int, isTy_str_str, isTy_str_list, isTy_str_tuple, isTy_str_dict, isTy_list_bool, isTy_list_int, isTy_list_str, isTy_list_list, isTy_list_tuple, isTy_list_dict, isTy_tuple_bool, isTy_tuple_int, isTy_tuple_str, isTy_tuple_list, isTy_tuple_tuple, isTy_tuple_dict, isTy_dict_bool, isTy_dict_int, isTy_dict_str, isTy_dict_list, isTy_dict_tuple, isTy_dict_dict, sMulti_ap, giveE, eSl_ap, pN_ap, pS_ap, dSl_l, dSl_t, isN_non, isN_bl, isN_int, isN_str, isN_lst, isN_tup, isN_dct, isN_fn, isN_row, Bool.or_true, Bool.or_false, Bool.true_or, Bool.false_or, reduceCtorEq, eq_self, ↓reduceIte]; exact h) ?_
      simp only [ret_ap, bnd_ap, ask_ap, fail_ap, noE_ap, eName_ap, eOwn_ap, eC_ap, e1_ap, e2_ap, e2g_ap, e3_ap, tst_ap, bAnd_ap, bOr_ap, bNot_ap, bYes_ap, vAnd_ap, vOr_ap, vNot_ap, tru_ap, eIf_ap, aNil_ap, aCons_ap, aStar_ap, eTup_ap, eLst_ap, eTupS_ap, eLstS_ap, eCall_ap, eRef_ap, eIsi_ap, eIsi2_ap, iSeq_ap, iEn_ap, iR1_ap, iR2_ap, iR3_ap, eLc_ap, sNil_ap, sSeq_ap, sFrz_ap, sExpr_ap, sRet_ap, sAsg_ap, sOwn_ap, sIf_ap, sFor_ap, sAug_ap, sApp_ap, sExt_ap, sRaise_ap, gN_ap, gT_ap, gsC_ap, gs0_ap, sq_rt, sq_ex, sq_bk, sq_ct, lp_rt, lp_ex, lp_bk, lp_ct, lp_nx, kS_rt, kS_ex, kS_nx, List.getElem?_cons_zero, List.getElem?_cons_succ, List.set_cons_zero, List.set_cons_succ, Option.bind_some, dLen_lst, dLen_tup, dLen_dct, dLen_str, dAdd_ii, dAdd_ss, dAdd_ll, dAdd_tt, dSub_ii, dMul_ii, dMul_li, dFdiv_ii, dMod_ii, dPow_ii, dNeg_i, dCmp_ii, dSum_l, dAll_l, dAny_l, dAbs_i, dInt_i, dInt_b, dList_l, dList_t, dTuple_l, dTuple_t, dMax2_ii, dMin2_ii, dAddI_ii, dRev_l, dIx_l, dIx_t, dIx_d, orFail_some, orFail_none, tru_non, ty_non, tru_bl, ty_bl, tru_int, ty_int, tru_str, ty_str, tru_lst, ty_lst, tru_tup, ty_tup, tru_dct, ty_dct, its_lst, items_lst, its_tup, items_tup, isL_l, dIsN, dNotN, if_true, if_false, Bool.not_true, Bool.not_false, true_and, and_true, wipeE, isTy_NoneType_bool, isTy_NoneType_int, isTy_NoneType_str, isTy_NoneType_list, isTy_NoneType_tuple, isTy_NoneType_dict, isTy_bool_bool, isTy_bool_int, isTy_bool_str, isTy_bool_list, isTy_bool_tuple, isTy_bool_dict, isTy_int_bool, isTy_int_int, isTy_int_str, isTy_int_list, isTy_int_tuple, isTy_int_dict, isTy_str_bool, isTy_str_int, isTy_str_str, isTy_str_list, isTy_str_tuple, isTy_str_dict, isTy_list_bool, isTy_list_int, isTy_list_str, isTy_list_list, isTy_list_tuple, isTy_list_dict, isTy_tuple_bool, isTy_tuple_int, isTy_tuple_str, isTy_tuple_list, isTy_tuple_tuple, isTy_tuple_dict, isTy_dict_bool, isTy_dict_int, isTy_dict_str, isTy_dict_list, isTy_dict_tuple, isTy_dict_dict, sMulti_ap, giveE, eSl_ap, pN_ap, pS_ap, dSl_l, dSl_t, isN_non, isN_bl, isN_int, isN_str, isN_lst, isN_tup, isN_dct, isN_fn, isN_row, Bool.or_true, Bool.or_false, Bool.true_or, Bool.false_or, reduceCtorEq, eq_self, ↓reduceIte, sq_nx]
      refine comp (fun b => decide (v < b)) _ _ _ (fun _ => rfl) (fun x W RB E h => by simp only [ret_ap, bnd_ap, ask_ap, fail_ap, noE_ap, eName_ap, eOwn_ap, eC_ap, e1_ap, e2_ap, e2g_ap, e3_ap, tst_ap, bAnd_ap, bOr_ap, bNot_ap, bYes_ap, vAnd_ap, vOr_ap, vNot_ap, tru_ap, eIf_ap, aNil_ap, aCons_ap, aStar_ap, eTup_ap, eLst_ap, eTupS_ap, eLstS_ap, eCall_ap, eRef_ap, eIsi_ap, eIsi2_ap, iSeq_ap, iEn_ap, iR1_ap, iR2_ap, iR3_ap, eLc_ap, sNil_ap, sSeq_ap, sFrz_ap, sExpr_ap, sRet_ap, sAsg_ap, sOwn_ap, sIf_ap, sFor_ap, sAug_ap, sApp_ap, sExt_ap, sRaise_ap, gN_ap, gT_ap, gsC_ap, gs0_ap, sq_rt, sq_ex, sq_bk, sq_ct, lp_rt, lp_ex, lp_bk, lp_ct, lp_nx, kS_rt, kS_ex, kS_nx, List.getElem?_cons_zero, List.getElem?_cons_succ, List.set_cons_zero, List.set_cons_succ, Option.bind_some, dLen_lst, dLen_tup, dLen_dct, dLen_str, dAdd_ii, dAdd_ss, dAdd_ll, dAdd_tt, dSub_ii, dMul_ii, dMul_li, dFdiv_ii, dMod_ii, dPow_ii, dNeg_i, dCmp_ii, dSum_l, dAll_l, dAny_l, dAbs_i, dInt_i, dInt_b, dList_l, dList_t, dTuple_l, dTuple_t, dMax2_ii, dMin2_ii, dAddI_ii, dRev_l, dIx_l, dIx_t, dIx_d, orFail_some, orFail_none, tru_non, ty_non, tru_bl, ty_bl, tru_int, ty_int, tru_str, ty_str, tru_lst, ty_lst, tru_tup, ty_tup, tru_dct, ty_dct, its_lst, items_lst, its_tup, items_tup, isL_l, dIsN, dNotN, if_true, if_false, Bool.not_true, Bool.not_false, true_and, and_true, wipeE, isTy_NoneType_bool, isTy_NoneType_int, isTy_NoneType_str, isTy_NoneType_list, isTy_NoneType_tuple, isTy_NoneType_dict, isTy_bool_bool, isTy_bool_int, isTy_bool_str, isTy_bool_list, isTy_bool_tuple, isTy_bool_dict, isTy_int_bool, isTy_int_int, isTy_int_str, isTy_int_list, isTy_int_tuple, isTy_int_dict, isTy_str_bool, isTy_str_int, isTy_str_str, isTy_str_list, isTy_str_tuple, isTy_str_dict, isTy_list_bool, isTy_list_int, isTy_list_str, isTy_list_list, isTy_list_tuple, isTy_list_dict, isTy_tuple_bool, isTy_tuple_int, isTy_tuple_str, isTy_tuple_list, isTy_tuple_tuple, isTy_tuple_dict, isTy_dict_bool, isTy_dict_int, isTy_dict_str, isTy_dict_list, isTy_dict_tuple, isTy_dict_dict, sMulti_ap, giveE, eSl_ap, pN_ap, pS_ap, dSl_l, dSl_t, isN_non, isN_bl, isN_int, isN_str, isN_lst, isN_tup, isN_dct, isN_fn, isN_row, Bool.or_true, Bool.or_false, Bool.true_or, Bool.false_or, reduceCtorEq, eq_self, ↓reduceIte]; exact h) ?_
      rw [hw']
      have e0 : left + (((wt.filter fun b => decide (b ≤ v)).map D.int).length : Nat) = s - wt'.length := by rw [List.length_map]; omega
      simp only [ret_ap, bnd_ap, ask_ap, fail_ap, noE_ap, eName_ap, eOwn_ap, eC_ap, e1_ap, e2_ap, e2g_ap, e3_ap, tst_ap, bAnd_ap, bOr_ap, bNot_ap, bYes_ap, vAnd_ap, vOr_ap, vNot_ap, tru_ap, eIf_ap, aNil_ap, aCons_ap, aStar_ap, eTup_ap, eLst_ap, eTupS_ap, eLstS_ap, eCall_ap, eRef_ap, eIsi_ap, eIsi2_ap, iSeq_ap, iEn_ap, iR1_ap, iR2_ap, iR3_ap, eLc_ap, sNil_ap, sSeq_ap, sFrz_ap, sExpr_ap, sRet_ap, sAsg_ap, sOwn_ap, sIf_ap, sFor_ap, sAug_ap, sApp_ap, sExt_ap, sRaise_ap, gN_ap, gT_ap, gsC_ap, gs0_ap, sq_rt, sq_ex, sq_bk, sq_ct, lp_rt, lp_ex, lp_bk, lp_ct, lp_nx, kS_rt, kS_ex, kS_nx, List.getElem?_cons_zero, List.getElem?_cons_succ, List.set_cons_zero, List.set_cons_succ, Option.bind_some, dLen_lst, dLen_tup, dLen_dct, dLen_str, dAdd_ii, dAdd_ss, dAdd_ll, dAdd_tt, dSub_ii, dMul_ii, dMul_li, dFdiv_ii, dMod_ii, dPow_ii, dNeg_i, dCmp_ii, dSum_l, dAll_l, dAny_l, dAbs_i, dInt_i, dInt_b, dList_l, dList_t, dTuple_l, dTuple_t, dMax2_ii, dMin2_ii, dAddI_ii, dRev_l, dIx_l, dIx_t, dIx_d, orFail_some, orFail_none, tru_non, ty_non, tru_bl, ty_bl, tru_int, ty_int, tru_str, ty_str, tru_lst, ty_lst, tru_tup, ty_tup, tru_dct, ty_dct, its_lst, items_lst, its_tup, items_tup, isL_l, dIsN, dNotN, if_true, if_false, Bool.not_true, Bool.not_false, true_and, and_true, wipeE, isTy_NoneType_bool, isTy_NoneType_int, isTy_NoneType_str, isTy_NoneType_list, isTy_NoneType_tuple, isTy_NoneType_dict, isTy_bool_bool, isTy_bool_int, isTy_bool_str, isTy_bool_list, isTy_bool_tuple, isTy_bool_dict, isTy_int_bool, isTy_int_int, isTy_int_str, isTy_int_list, isTy_int_tuple, isTy_int_dict, isTy_str_bool, isTy_str_int, isTy_str_str, isTy_str_list, isTy_str_tuple, isTy_str_dict, isTy_list_bool, isTy_list_int, isTy_list_str, isTy_list_list, isTy_list_tuple, isTy_list_dict, isTy_tuple_bool, isTy_tuple_int, isTy_tuple_str, isTy_tuple_list, isTy_tuple_tuple, isTy_tuple_dict, isTy_dict_bool, isTy_dict_int, isTy_dict_str, isTy_dict_list, isTy_dict_tuple, isTy_dict_dict, sMulti_ap, giveE, eSl_ap, pN_ap, pS_ap, dSl_l, dSl_t, isN_non, isN_bl, isN_int, isN_str, isN_lst, isN_tup, isN_dct, isN_fn, isN_row, Bool.or_true, Bool.or_false, Bool.true_or, Bool.false_or, reduceCtorEq, eq_self, ↓reduceIte, sq_nx, e0, dEqB_int']
      by_cases hz : s - (wt'.length : Int) = 0
      · rw [decide_eq_true hz]
        simp only [ret_ap, bnd_ap, ask_ap, fail_ap, noE_ap, eName_ap, eOwn_ap, eC_ap, e1_ap, e2_ap, e2g_ap, e3_ap, tst_ap, bAnd_ap, bOr_ap, bNot_ap, bYes_ap, vAnd_ap, vOr_ap, vNot_ap, tru_ap, eIf_ap, aNil_ap, aCons_ap, aStar_ap, eTup_ap, eLst_ap, eTupS_ap, eLstS_ap, eCall_ap, eRef_ap, eIsi_ap, eIsi2_ap, iSeq_ap, iEn_ap, iR1_ap, iR2_ap, iR3_ap, eLc_ap, sNil_ap, sSeq_ap, sFrz_ap, sExpr_ap, sRet_ap, sAsg_ap, sOwn_ap, sIf_ap, sFor_ap, sAug_ap, sApp_ap, sExt_ap, sRaise_ap, gN_ap, gT_ap, gsC_ap, gs0_ap, sq_rt, sq_ex, sq_bk, sq_ct, lp_rt, lp_ex, lp_bk, lp_ct, lp_nx, kS_rt, kS_ex, kS_nx, List.getElem?_cons_zero, List.getElem?_cons_succ, List.set_cons_zero, List.set_cons_succ, Option.bind_some, dLen_lst, dLen_tup, dLen_dct, dLen_str, dAdd_ii, dAdd_ss, dAdd_ll, dAdd_tt, dSub_ii, dMul_ii, dMul_li, dFdiv_ii, dMod_ii, dPow_ii, dNeg_i, dCmp_ii, dSum_l, dAll_l, dAny_l, dAbs_i, dInt_i, dInt_b, dList_l, dList_t, dTuple_l, dTuple_t, dMax2_ii, dMin2_ii, dAddI_ii, dRev_l, dIx_l, dIx_t, dIx_d, orFail_some, orFail_none, tru_non, ty_non, tru_bl, ty_bl, tru_int, ty_int, tru_str, ty_str, tru_lst, ty_lst, tru_tup, ty_tup, tru_dct, ty_dct, its_lst, items_lst, its_tup, items_tup, isL_l, dIsN, dNotN, if_true, if_false, Bool.not_true, Bool.not_false, true_and, and_true, wipeE, isTy_NoneType_bool, isTy_NoneType_int, isTy_NoneType_str, isTy_NoneType_list, isTy_NoneType_tuple, isTy_NoneType_dict, isTy_bool_bool, isTy_bool_int, isTy_bool_str, isTy_bool_list, isTy_bool_tuple, isTy_bool_dict, isTy_int_bool, isTy_int_int, isTy_int_str, isTy_int_list, isTy_int_tuple, isTy_int_dict, isTy_str_bool, isTy_str_int, isTy_str_str, isTy_str_list, isTy_str_tuple, isTy_str_dict, isTy_list_bool, isTy_list_int, isTy_list_str, isTy_list_list, isTy_list_tuple, isTy_list_dict, isTy_tuple_bool, isTy_tuple_int, isTy_tuple_str, isTy_tuple_list, isTy_tuple_tuple, isTy_tuple_dict, isTy_dict_bool, isTy_dict_int, isTy_dict_str, isTy_dict_list, isTy_dict_tuple, isTy_dict_dict, sMulti_ap, giveE, eSl_ap, pN_ap, pS_ap, dSl_l, dSl_t, isN_non, isN_bl, isN_int, isN_str, isN_lst, isN_tup, isN_dct, isN_fn, isN_row, Bool.or_true, Bool.or_false, Bool.true_or, Bool.false_or, reduceCtorEq, eq_self, ↓reduceIte]
        have e : (awayI ds bs).findIdx? (fun a => decide (s < a)) = some i := by
          rw [List.findIdx?_eq_some_iff_getElem]
          refine ⟨by rw [awayI_length]; exact hlt, ?_, fun j hji => ?_⟩
          · have := awayI_get ds bs i hlt
            rw [List.getElem?_eq_getElem (by rw [awayI_length]; exact hlt)] at this
            rw [Option.some.inj this, ea]
            exact decide_eq_true (by omega)
          · have := awayI_get ds bs j (by omega)
            rw [List.getElem?_eq_getElem (by rw [awayI_length]; omega)] at this
            rw [Option.some.inj this]
            have := hj j hji
            simpa using this
        unfold firstI at h
        rw [e] at h
        exact h
      · rw [decide_eq_false hz]
        have e1 : atI (bs.map D.int) (i : Nat) = some (.int (bs.getD i 0)) := atI_int bs i (by omega)
        simp only [ret_ap, bnd_ap, ask_ap, fail_ap, noE_ap, eName_ap, eOwn_ap, eC_ap, e1_ap, e2_ap, e2g_ap, e3_ap, tst_ap, bAnd_ap, bOr_ap, bNot_ap, bYes_ap, vAnd_ap, vOr_ap, vNot_ap, tru_ap, eIf_ap, aNil_ap, aCons_ap, aStar_ap, eTup_ap, eLst_ap, eTupS_ap, eLstS_ap, eCall_ap, eRef_ap, eIsi_ap, eIsi2_ap, iSeq_ap, iEn_ap, iR1_ap, iR2_ap, iR3_ap, eLc_ap, sNil_ap, sSeq_ap, sFrz_ap, sExpr_ap, sRet_ap, sAsg_ap, sOwn_ap, sIf_ap, sFor_ap, sAug_ap, sApp_ap, sExt_ap, sRaise_ap, gN_ap, gT_ap, gsC_ap, gs0_ap, sq_rt, sq_ex, sq_bk, sq_ct, lp_rt, lp_ex, lp_bk, lp_ct, lp_nx, kS_rt, kS_ex, kS_nx, List.getElem?_cons_zero, List.getElem?_cons_succ, List.set_cons_zero, List.set_cons_succ, Option.bind_some, dLen_lst, dLen_tup, dLen_dct, dLen_str, dAdd_ii, dAdd_ss, dAdd_ll, dAdd_tt, dSub_ii, dMul_ii, dMul_li, dFdiv_ii, dMod_ii, dPow_ii, dNeg_i, dCmp_ii, dSum_l, dAll_l, dAny_l, dAbs_i, dInt_i, dInt_b, dList_l, dList_t, dTuple_l, dTuple_t, dMax2_ii, dMin2_ii, dAddI_ii, dRev_l, dIx_l, dIx_t, dIx_d, orFail_some, orFail_none, tru_non, ty_non, tru_bl, ty_bl, tru_int, ty_int, tru_str, ty_str, tru_lst, ty_lst, tru_tup, ty_tup, tru_dct, ty_dct, its_lst, items_lst, its_tup, items_tup, isL_l, dIsN, dNotN, if_true, if_false, Bool.not_true, Bool.not_false, true_and, and_true, wipeE, isTy_NoneType_bool, isTy_NoneType_int, isTy_NoneType_str, isTy_NoneType_list, isTy_NoneType_tuple, isTy_NoneType_dict, isTy_bool_bool, isTy_bool_int, isTy_bool_str, isTy_bool_list, isTy_bool_tuple, isTy_bool_dict, isTy_int_bool, isTy_int_int, isTy_int_str, isTy_int_list, isTy_int_tuple, isTy_int_dict, isTy_str_bool, isTy_str_int, isTy_str_str, isTy_str_list, isTy_str_tuple, isTy_str_dict, isTy_list_bool, isTy_list_int, isTy_list_str, isTy_list_list, isTy_list_tuple, isTy_list_dict, isTy_tuple_bool, isTy_tuple_int, isTy_tuple_str, isTy_tuple_list, isTy_tuple_tuple, isTy_tuple_dict, isTy_dict_bool, isTy_dict_int, isTy_dict_str, isTy_dict_list, isTy_dict_tuple, isTy_dict_dict, sMulti_ap, giveE, eSl_ap, pN_ap, pS_ap, dSl_l, dSl_t, isN_non, isN_bl, isN_int, isN_str, isN_lst, isN_tup, isN_dct, isN_fn, isN_row, Bool.or_true, Bool.or_false, Bool.true_or, Bool.false_or, reduceCtorEq, eq_self, ↓reduceIte, sq_nx, e1]
        refine ⟨?_, hP _ _ ⟨wt' ++ [bs.getD i 0], s - wt'.length - 1, .v (.int (i : Nat)), .v (.int v), .v (.lst ((wt.filter fun b => decide (b ≤ v)).map .int)), ?_, fun u hu => ?_, fun j hji => ?_, ?_, rfl⟩⟩
        · rw [List.length_map]
          show _ < 16777216
          omega
        · rw [List.length_append]
          simp
          omega
        · have hu : v ≤ u := by
            rcases hu with hu | hu
            · omega
            · rw [Nat.add_sub_cancel, ev] at hu; exact hu
          rw [List.filter_append, List.take_add_one, List.filter_append]
          congr 1
          · rw [ew, List.filter_filter]
            refine List.filter_congr fun x _ => ?_
            by_cases hx : u < x
            · rw [decide_eq_true hx, decide_eq_true (show v < x by omega)]
              rfl
            · rw [decide_eq_false hx]
              rfl
          · rw [List.getD_eq_getElem?_getD, List.getElem?_eq_getElem (by omega)]
            rfl
        · by_cases e : j = i
          · rw [e, ea]; omega
          · exact hj j (by omega)
        · unfold intsD
          rw [List.map_append]
          rfl
  · rintro e w ⟨wt, left, a, b, c, hl, hw, hj, rfl, rfl⟩
    rw [enumD_length, List.length_map] at hj
    have e : (awayI ds bs).findIdx? (fun a => decide (s < a)) = none := List.findIdx?_eq_none_iff.mpr fun x hx => by
      obtain ⟨i, hi, rfl⟩ := List.mem_map.mp hx
      have := hj i (List.mem_range.mp hi)
      simpa using this
    unfold firstI at h
    rw [e] at h
    simp only [ret_ap, bnd_ap, ask_ap, fail_ap, noE_ap, eName_ap, eOwn_ap, eC_ap, e1_ap, e2_ap, e2g_ap, e3_ap, tst_ap, bAnd_ap, bOr_ap, bNot_ap, bYes_ap, vAnd_ap, vOr_ap, vNot_ap, tru_ap, eIf_ap, aNil_ap, aCons_ap, aStar_ap, eTup_ap, eLst_ap, eTupS_ap, eLstS_ap, eCall_ap, eRef_ap, eIsi_ap, eIsi2_ap, iSeq_ap, iEn_ap, iR1_ap, iR2_ap, iR3_ap, eLc_ap, sNil_ap, sSeq_ap, sFrz_ap, sExpr_ap, sRet_ap, sAsg_ap, sOwn_ap, sIf_ap, sFor_ap, sAug_ap, sApp_ap, sExt_ap, sRaise_ap, gN_ap, gT_ap, gsC_ap, gs0_ap, sq_rt, sq_ex, sq_bk, sq_ct, lp_rt, lp_ex, lp_bk, lp_ct, lp_nx, kS_rt, kS_ex, kS_nx, List.getElem?_cons_zero, List.getElem?_cons_succ, List.set_cons_zero, List.set_cons_succ, Option.bind_some, dLen_lst, dLen_tup, dLen_dct, dLen_str, dAdd_ii, dAdd_ss, dAdd_ll, dAdd_tt, dSub_ii, dMul_ii, dMul_li, dFdiv_ii, dMod_ii, dPow_ii, dNeg_i, dCmp_ii, dSum_l, dAll_l, dAny_l, dAbs_i, dInt_i, dInt_b, dList_l, dList_t, dTuple_l, dTuple_t, dMax2_ii, dMin2_ii, dAddI_ii, dRev_l, dIx_l, dIx_t, dIx_d, orFail_some, orFail_none, tru_non, ty_non, tru_bl, ty_bl, tru_int, ty_int, tru_str, ty_str, tru_lst, ty_lst, tru_tup, ty_tup, tru_dct, ty_dct, its_lst, items_lst, its_tup, items_tup, isL_l, dIsN, dNotN, if_true, if_false, Bool.not_true, Bool.not_false, true_and, and_true, wipeE, isTy_NoneType_bool, isTy_NoneType_int, isTy_NoneType_str, isTy_NoneType_list, isTy_NoneType_tuple, isTy_NoneType_dict, isTy_bool_bool, isTy_bool_int, isTy_bool_str, isTy_bool_list, isTy_bool_tuple, isTy_bool_dict, isTy_int_bool, isTy_int_int, isTy_int_str, isTy_int_list, isTy_int_tuple, isTy_int_dict, isTy_str_bool, isTy_str_int, isTy_str_str, isTy_str_list, isTy_str_tuple, isTy_str_dict, isTy_list_bool, isTy_list_int, isTy_list_str, isTy_list_list, isTy_list_tuple, isTy_list_dict, isTy_tuple_bool, isTy_tuple_int, isTy_tuple_str, isTy_tuple_list, isTy_tuple_tuple, isTy_tuple_dict, isTy_dict_bool, isTy_dict_int, isTy_dict_str, isTy_dict_list, isTy_dict_tuple, isTy_dict_dict, sMulti_ap, giveE, eSl_ap, pN_ap, pS_ap, dSl_l, dSl_t, isN_non, isN_bl, isN_int, isN_str, isN_lst, isN_tup, isN_dct, isN_fn, isN_row, Bool.or_true, Bool.or_false, Bool.true_or, Bool.false_or, reduceCtorEq, eq_self, ↓reduceIte, sq_nx]
    exact h
end
end K19

set_option maxRecDepth 100000
set_option maxHeartbeats 1000000
namespace K19
open PySem PySem.Spec PyProof.Rows L2 Y
open PySem.W (AllAlike Sortable dataLe dataLt)
section
variable {ds : List Int} {t : Int} {p : Nat}
/-! ### the law's own shop, day by day -/
/-- those of the first n that are still in the shop behind day v -/
def busyN (ds : List Int) (t : Int) (p n : Nat) (v : Int) : List Nat := (List.range n).filter fun j => decide (v < bF ds t p j)
def jobD (ds : List Int) (t : Int) (p j : Nat) : D := .tup [.int (j : Nat), .int (bF ds t p j)]
theorem busy_succ (n : Nat) (v : Int) (h : v < bF ds t p n) : busyN ds t p (n + 1) v = busyN ds t p n v ++ [n] := by
  unfold busyN
  rw [List.range_succ, List.filter_append, List.filter_cons, if_pos (decide_eq_true h), List.filter_nil]
theorem range_split (a b : Nat) : List.range (a + b) = List.range a ++ (List.range b).map (a + ·) := List.range_add
theorem busy_ge (F : Days ds) (ht : 1 ≤ t) {n : Nat} (hn : n ≤ ds.length) {v : Int} (h1 : p + 1 ≤ n) (h : v < bF ds t p (n - (p + 1))) : p + 1 ≤ (busyN ds t p n v).length := by
  unfold busyN
  obtain ⟨k, rfl⟩ : ∃ k, n = k + (p + 1) := ⟨n - (p + 1), by omega⟩
  rw [Nat.add_sub_cancel] at h
  rw [range_split, List.filter_append, List.length_append]
  have e : ((List.range (p + 1)).map (k + ·)).filter (fun j => decide (v < bF ds t p j)) = (List.range (p + 1)).map (k + ·) := by
    rw [List.filter_eq_self]
    intro j hj
    obtain ⟨i, hi, rfl⟩ := List.mem_map.mp hj
    have hi := List.mem_range.mp hi
    have := b_mono (p := p) F ht (show k ≤ k + i by omega) (by omega)
    exact decide_eq_true (by omega)
  rw [e, List.length_map, List.length_range]
  omega
theorem busy_le (F : Days ds) (ht : 1 ≤ t) {n : Nat} (hn : n ≤ ds.length) {v : Int} (h : p + 1 ≤ n → bF ds t p (n - (p + 1)) ≤ v) : (busyN ds t p n v).length ≤ p := by
  by_cases h1 : p + 1 ≤ n
  · have h := h h1
    unfold busyN
    obtain ⟨k, rfl⟩ : ∃ k, n = k + (p + 1) := ⟨n - (p + 1), by omega⟩
    rw [Nat.add_sub_cancel] at h
    rw [show k + (p + 1) = (k + 1) + p by omega, range_split, List.filter_append, List.length_append]
    have e : (List.range (k + 1)).filter (fun j => decide (v < bF ds t p j)) = [] := by
      rw [List.filter_eq_nil_iff]
      intro j hj
      have hj := List.mem_range.mp hj
      have := b_mono (p := p) F ht (show j ≤ k by omega) (by omega)
      simp
      omega
    rw [e, List.length_nil]
    have := List.length_filter_le (fun j => decide (v < bF ds t p j)) ((List.range p).map (k + 1 + ·))
    rw [List.length_map, List.length_range] at this
    omega
  · have := List.length_filter_le (fun j => decide (v < bF ds t p j)) (List.range n)
    rw [List.length_range] at this
    show (busyN ds t p n v).length ≤ p
    unfold busyN
    omega
/-- n are in or through, behind day v: the state of the shop -/
structure Shop (ds : List Int) (t : Int) (p n m : Nat) (v : Int) : Prop where
  nm : n ≤ m
  ml : m ≤ ds.length
  s1 : ∀ i, i < n → bF ds t p i - t ≤ v
  s2 : ∀ i, n ≤ i → i < ds.length → v < bF ds t p i - t
  d1 : ∀ i, i < m → ds.getD i 0 ≤ v
  d2 : ∀ i, m ≤ i → i < ds.length → v < ds.getD i 0
theorem st_eq (i : Nat) : bF ds t p i - t = max (ds.getD i 0) (prevF ds t p i) := by
  rw [bF_eq]
  omega
/-- the next one goes in on day v, if there is a place and it waits -/
theorem starts (F : Days ds) (ht : 1 ≤ t) {n m : Nat} {v : Int} (hm : m ≤ ds.length) (hn : n < m) (hv : 0 ≤ v) (d1 : ∀ i, i < m → ds.getD i 0 ≤ v) (hs : v ≤ bF ds t p n - t) (hb : (busyN ds t p n v).length ≤ p) : bF ds t p n = v + t := by
  have h1 := d1 n hn
  have h2 : prevF ds t p n ≤ v := by
    unfold prevF
    by_cases h : p + 1 ≤ n
    · rw [if_pos h]
      by_cases h3 : v < bF ds t p (n - (p + 1))
      · have := busy_ge (p := p) F ht (by omega) h h3
        omega
      · omega
    · rw [if_neg h]
      exact hv
  have := st_eq (ds := ds) (t := t) (p := p) n
  omega
/-- nobody else goes in on day v, if there is no place or nobody waits -/
theorem waits (F : Days ds) (ht : 1 ≤ t) {n m : Nat} {v : Int} (hm : m ≤ ds.length) (hn : n ≤ m) (d2 : ∀ i, m ≤ i → i < ds.length → v < ds.getD i 0) (hb : n = m ∨ p + 1 ≤ (busyN ds t p n v).length) : ∀ i, n ≤ i → i < ds.length → v < bF ds t p i - t := fun i h1 h2 => by
  rw [st_eq]
  rcases hb with rfl | hb
  · have := d2 i h1 h2
    omega
  · have h3 : v < prevF ds t p n := by
      unfold prevF
      by_cases h : p + 1 ≤ n
      · rw [if_pos h]
        by_cases h3 : v < bF ds t p (n - (p + 1))
        · exact h3
        · have := busy_le (p := p) F ht (show n ≤ ds.length by omega) (v := v) (fun _ => by omega)
          omega
      · have := busy_le (p := p) F ht (show n ≤ ds.length by omega) (v := v) (fun z => absurd z h)
        omega
    have := prev_mono (p := p) F ht h1 (by omega)
    omega
theorem b_le (F : Days ds) (ht : 1 ≤ t) (M : Int) (hM : 0 ≤ M) (h : ∀ d ∈ ds, d ≤ M) (i : Nat) (hi : i < ds.length) : bF ds t p i ≤ M + (i + 1) * t := by
  induction i using Nat.strongRecOn with
  | ind i ih =>
    have hd : ds.getD i 0 ≤ M := by
      rw [List.getD_eq_getElem?_getD, List.getElem?_eq_getElem hi]
      exact h _ (List.getElem_mem hi)
    have hp : prevF ds t p i ≤ M + i * t := by
      unfold prevF
      by_cases h1 : p + 1 ≤ i
      · rw [if_pos h1]
        have := ih (i - (p + 1)) (by omega) (by omega)
        have h2 : (((i - (p + 1) : Nat) : Int) + 1) * t ≤ i * t := Int.mul_le_mul_of_nonneg_right (by omega) (by omega)
        omega
      · rw [if_neg h1]
        have : 0 ≤ (i : Int) * t := Int.mul_nonneg (by omega) (by omega)
        omega
    rw [bF_eq, Int.add_mul, Int.one_mul]
    have : 0 ≤ (i : Int) * t := Int.mul_nonneg (by omega) (by omega)
    omega
/-- the days that are v, in a sorted row -/
theorem days_at {m m' : Nat} {v : Int} (h1 : m ≤ m') (h2 : m' ≤ ds.length) (a : ∀ i, i < m → ds.getD i 0 < v) (b : ∀ i, m ≤ i → i < m' → ds.getD i 0 = v) (c : ∀ i, m' ≤ i → i < ds.length → v < ds.getD i 0) :
    (List.range ds.length).filter (fun i => decide (ds.getD i 0 = v)) = (List.range (m' - m)).map (m + ·) := by
  obtain ⟨x, hx⟩ : ∃ x, ds.length = m + ((m' - m) + x) := ⟨ds.length - m', by omega⟩
  rw [hx, range_split, range_split, List.map_append, List.filter_append, List.filter_append]
  have e1 : (List.range m).filter (fun i => decide (ds.getD i 0 = v)) = [] := by
    rw [List.filter_eq_nil_iff]
    intro i hi
    have := a i (List.mem_range.mp hi)
    exact fun z => by have := of_decide_eq_true z; omega
  have e2 : ((List.range (m' - m)).map (m + ·)).filter (fun i => decide (ds.getD i 0 = v)) = (List.range (m' - m)).map (m + ·) := by
    rw [List.filter_eq_self]
    intro i hi
    obtain ⟨j, hj, rfl⟩ := List.mem_map.mp hi
    exact decide_eq_true (b _ (by omega) (by have := List.mem_range.mp hj; omega))
  have e3 : (((List.range x).map (m' - m + ·)).map (m + ·)).filter (fun i => decide (ds.getD i 0 = v)) = [] := by
    rw [List.filter_eq_nil_iff]
    intro i hi
    obtain ⟨j, hj, rfl⟩ := List.mem_map.mp hi
    obtain ⟨k, hk, rfl⟩ := List.mem_map.mp hj
    have := List.mem_range.mp hk
    have := c (m + (m' - m + k)) (by omega) (by omega)
    exact fun z => by have := of_decide_eq_true z; omega
  rw [e1, e2, e3, List.nil_append, List.append_nil]
/-- how many are there up to v -/
theorem upto (F : Days ds) (v : Int) : ∃ m, m ≤ ds.length ∧ (∀ i, i < m → ds.getD i 0 ≤ v) ∧ ∀ i, m ≤ i → i < ds.length → v < ds.getD i 0 := by
  have key : ∀ n, n ≤ ds.length → ∃ m, m ≤ n ∧ (∀ i, i < m → ds.getD i 0 ≤ v) ∧ ∀ i, m ≤ i → i < n → v < ds.getD i 0 := fun n => by
    induction n with
    | zero => exact fun _ => ⟨0, Nat.le_refl _, fun i hi => by omega, fun i _ hi => by omega⟩
    | succ n ih =>
      intro hn
      obtain ⟨m, h1, h2, h3⟩ := ih (by omega)
      by_cases e : ds.getD n 0 ≤ v
      · refine ⟨n + 1, Nat.le_refl _, fun i hi => ?_, fun i h4 h5 => by omega⟩
        have := F.le (show i ≤ n by omega) (by omega)
        omega
      · refine ⟨m, by omega, h2, fun i h4 h5 => ?_⟩
        by_cases ei : i = n
        · rw [ei]; omega
        · exact h3 i h4 (by omega)
  exact key ds.length (Nat.le_refl _)
def queD (n m : Nat) : D := .lst (((List.range (m - n)).map (n + ·)).map fun k => .int (k : Nat))
end
section
variable {W : List MO} {R : D → List MO → Prop} {E : Exn → List MO → Prop} {ds : List Int} {t : Int} {p : Nat}
abbrev shE (ds : List Int) (t : Int) (p n m : Nat) (bz : List Nat) (v : Int) (a b : Sl) : Y.Env := [.v (intsD ds), .v (.int t), .v (.int (p + 1 : Nat)), .o (.lst (bz.map (jobD ds t p))), .v (queD n m), .o (intsD ((List.range n).map (bF ds t p))), .v (.int v), a, b, .no, .no]
abbrev shInner : SM := sIf (bAnd (tst (e2 dLt (e1 dLen (eOwn 3)) (eName 2))) (tst (e2 dNe (eName 4) (eLst aNil)))) (sSeq (sApp 3 (eTup (aCons (e2 dIx (eName 4) (eC (.int 0))) (aCons (e2 dAdd (eName 6) (eName 1)) aNil)))) (sSeq (sApp 5 (e2 dAdd (eName 6) (eName 1))) (sAsg (gN 4) (eSl dSl (eName 4) (pS (eC (.int 1))) pN)))) sNil
theorem que_emp (n m : Nat) : dEqB (fun b => !b) (queD n m) (.lst []) W R E = R (.bl (decide (n < m))) W := by
  unfold queD
  rw [dEqB_lst_nil]
  · congr 2
    by_cases h : n < m
    · rw [decide_eq_true h]
      obtain ⟨k, hk⟩ : ∃ k, m - n = k + 1 := ⟨m - n - 1, by omega⟩
      rw [hk, List.range_succ_eq_map]
      rfl
    · rw [decide_eq_false h, show m - n = 0 by omega]
      rfl
  · show (decide (0 < 60) && D.okds 59 _) = true
    rw [D.okds_eq]
    rw [show (((List.range (m - n)).map (n + ·)).map fun k => D.int (k : Nat)).all (D.okd 59) = true from List.all_eq_true.mpr fun d hd => by obtain ⟨a, _, rfl⟩ := List.mem_map.mp hd; rfl]
    rfl
theorem que_cons {n m : Nat} (h : n < m) : ((List.range (m - n)).map (n + ·)).map (fun k => D.int (k : Nat)) = .int (n : Nat) :: ((List.range (m - (n + 1))).map (n + 1 + ·)).map fun k => D.int (k : Nat) := by
  obtain ⟨k, hk⟩ : ∃ k, m - n = k + 1 := ⟨m - n - 1, by omega⟩
  rw [hk, show m - (n + 1) = k by omega, List.range_succ_eq_map, List.map_cons, List.map_cons, Nat.add_zero]
  congr 1
  rw [List.map_map, List.map_map, List.map_map]
  refine List.map_congr_left fun i _ => ?_
  show D.int ((n + (i + 1) : Nat) : Int) = D.int ((n + 1 + i : Nat) : Int)
  congr 2
  omega
theorem sh_inner (F : Days ds) (ht : 1 ≤ t) (ht2 : t ≤ 1000) (hp : p ≤ 19) {n m : Nat} {v : Int} (hv : 0 ≤ v) {a b : Sl} {K : Ks} (hm : m ≤ ds.length) (hn : n ≤ m) (d1 : ∀ i, i < m → ds.getD i 0 ≤ v) (s2 : ∀ i, n ≤ i → i < ds.length → v ≤ bF ds t p i - t)
    (g1 : n < m → (busyN ds t p n v).length ≤ p → bF ds t p n = v + t → K.nx (shE ds t p (n + 1) m (busyN ds t p (n + 1) v) v a b) W) (g2 : (n = m ∨ p + 1 ≤ (busyN ds t p n v).length) → K.nx (shE ds t p n m (busyN ds t p n v) v a b) W) :
    shInner (shE ds t p n m (busyN ds t p n v) v a b) W K := by
  have f60 := F.len
  have bl : (busyN ds t p n v).length ≤ 60 := by
    have := List.length_filter_le (fun j => decide (v < bF ds t p j)) (List.range n)
    rw [List.length_range] at this
    unfold busyN
    omega
  have el : ((busyN ds t p n v).map (jobD ds t p)).length = (busyN ds t p n v).length := List.length_map ..
  unfold shInner
  simp only [sIf_ap, bAnd_ap, tst_ap, e2_ap, e1_ap, eOwn_ap, eName_ap, List.getElem?_cons_zero, List.getElem?_cons_succ, dLen_lst, ret_ap, dCmp_ii, el, eLst_ap, aNil_ap]
  by_cases hb : (busyN ds t p n v).length ≤ p
  · rw [decide_eq_true (show ((busyN ds t p n v).length : Int) < ((p + 1 : Nat) : Int) by omega), if_pos rfl]
    rw [show dNe = dEqB fun b => !b from rfl, que_emp]
    by_cases hq : n < m
    · have hst := starts F ht hm hq hv d1 (s2 n (Nat.le_refl _) (by omega)) hb
      rw [decide_eq_true hq]
      have eq0 : queD n m = .lst (.int (n : Nat) :: ((List.range (m - (n + 1))).map (n + 1 + ·)).map fun k => D.int (k : Nat)) := by
        unfold queD
        rw [que_cons hq]
      have a0 : ∀ (x : D) (xs : List D), atI (x :: xs) 0 = some x := fun x xs => Y.atI_nat (x :: xs) 0
      have c1 : ∀ (x : D) (xs : List D), Y.cutD (x :: xs) (some 1) none = xs := fun x xs => cut_from (x :: xs) 1
      simp only [ret_ap, bnd_ap, ask_ap, fail_ap, noE_ap, eName_ap, eOwn_ap, eC_ap, e1_ap, e2_ap, e2g_ap, e3_ap, tst_ap, bAnd_ap, bOr_ap, bNot_ap, bYes_ap, vAnd_ap, vOr_ap, vNot_ap, tru_ap, eIf_ap, aNil_ap, aCons_ap, aStar_ap, eTup_ap, eLst_ap, eTupS_ap, eLstS_ap, eCall_ap, eRef_ap, eIsi_ap, eIsi2_ap, iSeq_ap, iEn_ap, iR1_ap, iR2_ap, iR3_ap, eLc_ap, sNil_ap, sSeq_ap, sFrz_ap, sExpr_ap, sRet_ap, sAsg_ap, sOwn_ap, sIf_ap, sFor_ap, sAug_ap, sApp_ap, sExt_ap, sRaise_ap, gN_ap, gT_ap, gsC_ap, gs0_ap, sq_rt, sq_ex, sq_bk, sq_ct, lp_rt, lp_ex, lp_bk, lp_ct, lp_nx, kS_rt, kS_ex, kS_nx, List.getElem?_cons_zero, List.getElem?_cons_succ, List.set_cons_zero, List.set_cons_succ, Option.bind_some, dLen_lst, dLen_tup, dLen_dct, dLen_str, dAdd_ii, dAdd_ss, dAdd_ll, dAdd_tt, dSub_ii, dMul_ii, dMul_li, dFdiv_ii, dMod_ii, dPow_ii, dNeg_i, dCmp_ii, dSum_l, dAll_l, dAny_l, dAbs_i, dInt_i, dInt_b, dList_l, dList_t, dTuple_l, dTuple_t, dMax2_ii, dMin2_ii, dAddI_ii, dRev_l, dIx_l, dIx_t, dIx_d, orFail_some, orFail_none, tru_non, ty_non, tru_bl, ty_bl, tru_int, ty_int, tru_str, ty_str, tru_lst, ty_lst, tru_tup, ty_tup, tru_dct, ty_dct, its_lst, items_lst, its_tup, items_tup, isL_l, dIsN, dNotN, if_true, if_false, Bool.not_true, Bool.not_false, true_and, and_true, wipeE, isTy_NoneType_bool, isTy_NoneType_int, isTy_NoneType_str, isTy_NoneType_list, isTy_NoneType_tuple, isTy_NoneType_dict, isTy_bool_bool, isTy_bool_int, isTy_bool_str, isTy_bool_list, isTy_bool_tuple, isTy_bool_dict, isTy_int_bool, isTy_int_int, isTy_int_str, isTy_int_list, isTy_int_tuple, isTy_int_dict, isTy_str_bool, isTy_str_int, isTy_str_str, isTy_str_list, isTy_str_tuple, isTy_str_dict, isTy_list_bool, isTy_list_int, isTy_list_str, isTy_list_list, isTy_list_tuple, isTy_list_dict, isTy_tuple_bool, isTy_tuple_int, isTy_tuple_str, isTy_tuple_list, isTy_tuple_tuple, isTy_tuple_dict, isTy_dict_bool, isTy_dict_int, isTy_dict_str, isTy_dict_list, isTy_dict_tuple, isTy_dict_dict, sMulti_ap, giveE, eSl_ap, pN_ap, pS_ap, dSl_l, dSl_t, isN_non, isN_bl, isN_int, isN_str, isN_lst, isN_tup, isN_dct, isN_fn, isN_row, Bool.or_true, Bool.or_false, Bool.true_or, Bool.false_or, reduceCtorEq, eq_self, ↓reduceIte, eq0, a0, c1, sq_nx]
      refine ⟨?_, ?_, ?_⟩
      · rw [el]
        show _ < 16777216
        omega
      · rw [List.length_map, List.length_map, List.length_range]
        show _ < 16777216
        omega
      · have := g1 hq hb hst
        rw [busy_succ n v (by omega)] at this
        have e1 : (busyN ds t p n v ++ [n]).map (jobD ds t p) = (busyN ds t p n v).map (jobD ds t p) ++ [.tup [.int (n : Nat), .int (v + t)]] := by
          rw [List.map_append, ← hst]
          rfl
        have e2 : ((List.range (n + 1)).map (bF ds t p)).map D.int = ((List.range n).map (bF ds t p)).map D.int ++ [.int (v + t)] := by
          rw [List.range_succ, List.map_append, List.map_append, ← hst]
          rfl
        unfold shE intsD at this
        rw [e1, e2] at this
        exact this
    · rw [decide_eq_false hq]
      simp only [ret_ap, bnd_ap, ask_ap, fail_ap, noE_ap, eName_ap, eOwn_ap, eC_ap, e1_ap, e2_ap, e2g_ap, e3_ap, tst_ap, bAnd_ap, bOr_ap, bNot_ap, bYes_ap, vAnd_ap, vOr_ap, vNot_ap, tru_ap, eIf_ap, aNil_ap, aCons_ap, aStar_ap, eTup_ap, eLst_ap, eTupS_ap, eLstS_ap, eCall_ap, eRef_ap, eIsi_ap, eIsi2_ap, iSeq_ap, iEn_ap, iR1_ap, iR2_ap, iR3_ap, eLc_ap, sNil_ap, sSeq_ap, sFrz_ap, sExpr_ap, sRet_ap, sAsg_ap, sOwn_ap, sIf_ap, sFor_ap, sAug_ap, sApp_ap, sExt_ap, sRaise_ap, gN_ap, gT_ap, gsC_ap, gs0_ap, sq_rt, sq_ex, sq_bk, sq_ct, lp_rt, lp_ex, lp_bk, lp_ct, lp_nx, kS_rt, kS_ex, kS_nx, List.getElem?_cons_zero, List.getElem?_cons_succ, List.set_cons_zero, List.set_cons_succ, Option.bind_some, dLen_lst, dLen_tup, dLen_dct, dLen_str, dAdd_ii, dAdd_ss, dAdd_ll, dAdd_tt, dSub_ii, dMul_ii, dMul_li, dFdiv_ii, dMod_ii, dPow_ii, dNeg_i, dCmp_ii, dSum_l, dAll_l, dAny_l, dAbs_i, dInt_i, dInt_b, dList_l, dList_t, dTuple_l, dTuple_t, dMax2_ii, dMin2_ii, dAddI_ii, dRev_l, dIx_l, dIx_t, dIx_d, orFail_some, orFail_none, tru_non, ty_non, tru_bl, ty_bl, tru_int, ty_int, tru_str, ty_str, tru_lst, ty_lst, tru_tup, ty_tup, tru_dct, ty_dct, its_lst, items_lst, its_tup, items_tup, isL_l, dIsN, dNotN, if_true, if_false, Bool.not_true, Bool.not_false, true_and, and_true, wipeE, isTy_NoneType_bool, isTy_NoneType_int, isTy_NoneType_str, isTy_NoneType_list, isTy_NoneType_tuple, isTy_NoneType_dict, isTy_bool_bool, isTy_bool_int, isTy_bool_str, isTy_bool_list, isTy_bool_tuple, isTy_bool_dict, isTy_int_bool, isTy_int_int, isTy_int_str, isTy_int_list, isTy_int_tuple, isTy_int_dict, isTy_str_bool, isTy_str_int, isTy_str_str, isTy_str_list, isTy_str_tuple, isTy_str_dict, isTy_list_bool, isTy_list_int, isTy_list_str, isTy_list_list, isTy_list_tuple, isTy_list_dict, isTy_tuple_bool, isTy_tuple_int, isTy_tuple_str, isTy_tuple_list, isTy_tuple_tuple, isTy_tuple_dict, isTy_dict_bool, isTy_dict_int, isTy_dict_str, isTy_dict_list, isTy_dict_tuple, isTy_dict_dict, sMulti_ap, giveE, eSl_ap, pN_ap, pS_ap, dSl_l, dSl_t, isN_non, isN_bl, isN_int, isN_str, isN_lst, isN_tup, isN_dct, isN_fn, isN_row, Bool.or_true, Bool.or_false, Bool.true_or, Bool.false_or, reduceCtorEq, eq_self, ↓reduceIte]
      exact g2 (.inl (by omega))
  · rw [decide_eq_false (show ¬ ((busyN ds t p n v).length : Int) < ((p + 1 : Nat) : Int) by omega)]
    simp only [ret_ap, bnd_ap, ask_ap, fail_ap, noE_ap, eName_ap, eOwn_ap, eC_ap, e1_ap, e2_ap, e2g_ap, e3_ap, tst_ap, bAnd_ap, bOr_ap, bNot_ap, bYes_ap, vAnd_ap, vOr_ap, vNot_ap, tru_ap, eIf_ap, aNil_ap, aCons_ap, aStar_ap, eTup_ap, eLst_ap, eTupS_ap, eLstS_ap, eCall_ap, eRef_ap, eIsi_ap, eIsi2_ap, iSeq_ap, iEn_ap, iR1_ap, iR2_ap, iR3_ap, eLc_ap, sNil_ap, sSeq_ap, sFrz_ap, sExpr_ap, sRet_ap, sAsg_ap, sOwn_ap, sIf_ap, sFor_ap, sAug_ap, sApp_ap, sExt_ap, sRaise_ap, gN_ap, gT_ap, gsC_ap, gs0_ap, sq_rt, sq_ex, sq_bk, sq_ct, lp_rt, lp_ex, lp_bk, lp_ct, lp_nx, kS_rt, kS_ex, kS_nx, List.getElem?_cons_zero, List.getElem?_cons_succ, List.set_cons_zero, List.set_cons_succ, Option.bind_some, dLen_lst, dLen_tup, dLen_dct, dLen_str, dAdd_ii, dAdd_ss, dAdd_ll, dAdd_tt, dSub_ii, dMul_ii, dMul_li, dFdiv_ii, dMod_ii, dPow_ii, dNeg_i, dCmp_ii, dSum_l, dAll_l, dAny_l, dAbs_i, dInt_i, dInt_b, dList_l, dList_t, dTuple_l, dTuple_t, dMax2_ii, dMin2_ii, dAddI_ii, dRev_l, dIx_l, dIx_t, dIx_d, orFail_some, orFail_none, tru_non, ty_non, tru_bl, ty_bl, tru_int, ty_int, tru_str, ty_str, tru_lst, ty_lst, tru_tup, ty_tup, tru_dct, ty_dct, its_lst, items_lst, its_tup, items_tup, isL_l, dIsN, dNotN, if_true, if_false, Bool.not_true, Bool.not_false, true_and, and_true, wipeE, isTy_NoneType_bool, isTy_NoneType_int, isTy_NoneType_str, isTy_NoneType_list, isTy_NoneType_tuple, isTy_NoneType_dict, isTy_bool_bool, isTy_bool_int, isTy_bool_str, isTy_bool_list, isTy_bool_tuple, isTy_bool_dict, isTy_int_bool, isTy_int_int, isTy_int_str, isTy_int_list, isTy_int_tuple, isTy_int_dict, isTy_str_bool, isTy_str_int, isTy_str_str, isTy_str_list, isTy_str_tuple, isTy_str_dict, isTy_list_bool, isTy_list_int, isTy_list_str, isTy_list_list, isTy_list_tuple, isTy_list_dict, isTy_tuple_bool, isTy_tuple_int, isTy_tuple_str, isTy_tuple_list, isTy_tuple_tuple, isTy_tuple_dict, isTy_dict_bool, isTy_dict_int, isTy_dict_str, isTy_dict_list, isTy_dict_tuple, isTy_dict_dict, sMulti_ap, giveE, eSl_ap, pN_ap, pS_ap, dSl_l, dSl_t, isN_non, isN_bl, isN_int, isN_str, isN_lst, isN_tup, isN_dct, isN_fn, isN_row, Bool.or_true, Bool.or_false, Bool.true_or, Bool.false_or, reduceCtorEq, eq_self, ↓reduceIte]
    exact g2 (.inr (by omega))
end
end K19

set_option maxRecDepth 100000
set_option maxHeartbeats 1000000
namespace K19
open PySem PySem.Spec PyProof.Rows L2 Y
open PySem.W (AllAlike Sortable dataLe dataLt)
section
variable {W : List MO} {R : D → List MO → Prop} {E : Exn → List MO → Prop} {ds : List Int} {t : Int} {p : Nat}
theorem max_ap (F : Days ds) : ∃ M : Int, 0 ≤ M ∧ M < 300 ∧ (∀ d ∈ ds, d ≤ M) ∧ ∀ {W : List MO} {R : D → List MO → Prop} {E : Exn → List MO → Prop}, R (.int M) W → dMax (.lst (ds.map .int ++ [.int 0])) W R E := by
  have e : ds.map D.int ++ [.int 0] = (ds ++ [0]).map .int := by rw [List.map_append]; rfl
  rw [e]
  cases q : ds ++ [0] with
  | nil => simp at q
  | cons a as =>
    have h1 := maxI_ge as a
    have h2 := maxI_mem as a
    have all : ∀ x ∈ ds ++ [0], x ≤ maxI a as := fun x hx => by
      rw [q] at hx
      rcases List.mem_cons.mp hx with rfl | hx
      · exact h1.1
      · exact h1.2 x hx
    rw [← q] at h2
    refine ⟨maxI a as, all 0 (by simp), ?_, fun d hd => all d (by simp [hd]), fun {W R E} h => ?_⟩
    · rcases List.mem_append.mp h2 with h2 | h2
      · exact (F.rng _ h2).2
      · rw [List.mem_singleton.mp h2]; decide
    · rw [dMax_ints]
      exact h
abbrev shBody : SM := (sSeq (sOwn 3 (eLc [9] (gN 9) (tst (e2 dGt (e2 dIx (eName 9) (eC (.int 1))) (eName 6))) (eName 9) (iSeq (eOwn 3)))) (sSeq (sAsg (gN 4) (e2 dAdd (eName 4) (eLc [10] (gN 10) (tst (e2 dEq (e2 dIx (eName 0) (eName 10)) (eName 6))) (eName 10) (iR1 (aCons (e1 dLen (eName 0)) aNil))))) (sSeq (sFor (iR1 (aCons (eName 2) aNil)) (gN 8) shInner) (sAsg (gN 6) (e2 dAdd (eName 6) (eC (.int 1)))))))
theorem sh_body (F : Days ds) (ht : 1 ≤ t) (ht2 : t ≤ 1000) (hp : p ≤ 19) {n m : Nat} {k : Int} (hk : 0 ≤ k) (S : Shop ds t p n m (k - 1)) {a b : Sl} {K : Ks}
    (h : ∀ n' m' b, Shop ds t p n' m' k → K.nx (shE ds t p n' m' (busyN ds t p n' k) (k + 1) a b) W) : shBody (shE ds t p n m (busyN ds t p n (k - 1)) k a b) W K := by
  have f60 := F.len
  obtain ⟨m', hm', d1, d2⟩ := upto F k
  have hmm : m ≤ m' := by
    by_cases z : m ≤ m'
    · exact z
    · have := S.d1 m' (by omega)
      have := d2 m' (Nat.le_refl _) (by have := S.ml; omega)
      omega
  have hnm := S.nm
  unfold shBody
  simp only [sSeq_ap, sOwn_ap, eLc_ap, iSeq_ap, eOwn_ap, List.getElem?_cons_zero, List.getElem?_cons_succ, its_lst, wipeE, List.set_cons_zero, List.set_cons_succ]
  refine compM_map (p := fun x => match x with | .tup [_, .int o] => decide (k < o) | _ => false) (g := fun x => x) (fun x hx => ?_) ?_
  · obtain ⟨j, _, rfl⟩ := List.mem_map.mp hx
    have a1 : ∀ x y : D, atI [x, y] 1 = some y := fun _ _ => rfl
    refine ⟨_, rfl, fun W RB E h => ?_, fun _ W R E h => ?_⟩
    · unfold jobD
      simp only [ret_ap, bnd_ap, ask_ap, fail_ap, noE_ap, eName_ap, eOwn_ap, eC_ap, e1_ap, e2_ap, e2g_ap, e3_ap, tst_ap, bAnd_ap, bOr_ap, bNot_ap, bYes_ap, vAnd_ap, vOr_ap, vNot_ap, tru_ap, eIf_ap, aNil_ap, aCons_ap, aStar_ap, eTup_ap, eLst_ap, eTupS_ap, eLstS_ap, eCall_ap, eRef_ap, eIsi_ap, eIsi2_ap, iSeq_ap, iEn_ap, iR1_ap, iR2_ap, iR3_ap, eLc_ap, sNil_ap, sSeq_ap, sFrz_ap, sExpr_ap, sRet_ap, sAsg_ap, sOwn_ap, sIf_ap, sFor_ap, sAug_ap, sApp_ap, sExt_ap, sRaise_ap, gN_ap, gT_ap, gsC_ap, gs0_ap, sq_rt, sq_ex, sq_bk, sq_ct, lp_rt, lp_ex, lp_bk, lp_ct, lp_nx, kS_rt, kS_ex, kS_nx, List.getElem?_cons_zero, List.getElem?_cons_succ, List.set_cons_zero, List.set_cons_succ, Option.bind_some, dLen_lst, dLen_tup, dLen_dct, dLen_str, dAdd_ii, dAdd_ss, dAdd_ll, dAdd_tt, dSub_ii, dMul_ii, dMul_li, dFdiv_ii, dMod_ii, dPow_ii, dNeg_i, dCmp_ii, dSum_l, dAll_l, dAny_l, dAbs_i, dInt_i, dInt_b, dList_l, dList_t, dTuple_l, dTuple_t, dMax2_ii, dMin2_ii, dAddI_ii, dRev_l, dIx_l, dIx_t, dIx_d, orFail_some, orFail_none, tru_non, ty_non, tru_bl, ty_bl, tru_int, ty_int, tru_str, ty_str, tru_lst, ty_lst, tru_tup, ty_tup, tru_dct, ty_dct, its_lst, items_lst, its_tup, items_tup, isL_l, dIsN, dNotN, if_true, if_false, Bool.not_true, Bool.not_false, true_and, and_true, wipeE, isTy_NoneType_bool, isTy_NoneType_int, isTy_NoneType_str, isTy_NoneType_list, isTy_NoneType_tuple, isTy_NoneType_dict, isTy_bool_bool, isTy_bool_int, isTy_bool_str, isTy_bool_list, isTy_bool_tuple, isTy_bool_dict, isTy_int_bool, isTy_int_int, isTy_int_str, isTy_int_list, isTy_int_tuple, isTy_int_dict, isTy_str_bool, isTy_str_int, isTy_str_str, isTy_str_list, isTy_str_tuple, isTy_str_dict, isTy_list_bool, isTy_list_int, isTy_list_str, isTy_list_list, isTy_list_tuple, isTy_list_dict, isTy_tuple_bool, isTy_tuple_int, isTy_tuple_str, isTy_tuple_list, isTy_tuple_tuple, isTy_tuple_dict, isTy_dict_bool, isTy_dict_int, isTy_dict_str, isTy_dict_list, isTy_dict_tuple, isTy_dict_dict, sMulti_ap, giveE, eSl_ap, pN_ap, pS_ap, dSl_l, dSl_t, isN_non, isN_bl, isN_int, isN_str, isN_lst, isN_tup, isN_dct, isN_fn, isN_row, Bool.or_true, Bool.or_false, Bool.true_or, Bool.false_or, reduceCtorEq, eq_self, ↓reduceIte, a1]
      exact h
    · simp only [ret_ap, bnd_ap, ask_ap, fail_ap, noE_ap, eName_ap, eOwn_ap, eC_ap, e1_ap, e2_ap, e2g_ap, e3_ap, tst_ap, bAnd_ap, bOr_ap, bNot_ap, bYes_ap, vAnd_ap, vOr_ap, vNot_ap, tru_ap, eIf_ap, aNil_ap, aCons_ap, aStar_ap, eTup_ap, eLst_ap, eTupS_ap, eLstS_ap, eCall_ap, eRef_ap, eIsi_ap, eIsi2_ap, iSeq_ap, iEn_ap, iR1_ap, iR2_ap, iR3_ap, eLc_ap, sNil_ap, sSeq_ap, sFrz_ap, sExpr_ap, sRet_ap, sAsg_ap, sOwn_ap, sIf_ap, sFor_ap, sAug_ap, sApp_ap, sExt_ap, sRaise_ap, gN_ap, gT_ap, gsC_ap, gs0_ap, sq_rt, sq_ex, sq_bk, sq_ct, lp_rt, lp_ex, lp_bk, lp_ct, lp_nx, kS_rt, kS_ex, kS_nx, List.getElem?_cons_zero, List.getElem?_cons_succ, List.set_cons_zero, List.set_cons_succ, Option.bind_some, dLen_lst, dLen_tup, dLen_dct, dLen_str, dAdd_ii, dAdd_ss, dAdd_ll, dAdd_tt, dSub_ii, dMul_ii, dMul_li, dFdiv_ii, dMod_ii, dPow_ii, dNeg_i, dCmp_ii, dSum_l, dAll_l, dAny_l, dAbs_i, dInt_i, dInt_b, dList_l, dList_t, dTuple_l, dTuple_t, dMax2_ii, dMin2_ii, dAddI_ii, dRev_l, dIx_l, dIx_t, dIx_d, orFail_some, orFail_none, tru_non, ty_non, tru_bl, ty_bl, tru_int, ty_int, tru_str, ty_str, tru_lst, ty_lst, tru_tup, ty_tup, tru_dct, ty_dct, its_lst, items_lst, its_tup, items_tup, isL_l, dIsN, dNotN, if_true, if_false, Bool.not_true, Bool.not_false, true_and, and_true, wipeE, isTy_NoneType_bool, isTy_NoneType_int, isTy_NoneType_str, isTy_NoneType_list, isTy_NoneType_tuple, isTy_NoneType_dict, isTy_bool_bool, isTy_bool_int, isTy_bool_str, isTy_bool_list, isTy_bool_tuple, isTy_bool_dict, isTy_int_bool, isTy_int_int, isTy_int_str, isTy_int_list, isTy_int_tuple, isTy_int_dict, isTy_str_bool, isTy_str_int, isTy_str_str, isTy_str_list, isTy_str_tuple, isTy_str_dict, isTy_list_bool, isTy_list_int, isTy_list_str, isTy_list_list, isTy_list_tuple, isTy_list_dict, isTy_tuple_bool, isTy_tuple_int, isTy_tuple_str, isTy_tuple_list, isTy_tuple_tuple, isTy_tuple_dict, isTy_dict_bool, isTy_dict_int, isTy_dict_str, isTy_dict_list, isTy_dict_tuple, isTy_dict_dict, sMulti_ap, giveE, eSl_ap, pN_ap, pS_ap, dSl_l, dSl_t, isN_non, isN_bl, isN_int, isN_str, isN_lst, isN_tup, isN_dct, isN_fn, isN_row, Bool.or_true, Bool.or_false, Bool.true_or, Bool.false_or, reduceCtorEq, eq_self, ↓reduceIte]
      exact h
  have eb : (((busyN ds t p n (k - 1)).map (jobD ds t p)).filter fun x => match x with | .tup [_, .int o] => decide (k < o) | _ => false).map (fun x => x) = (busyN ds t p n k).map (jobD ds t p) := by
    rw [List.map_id', List.filter_map]
    congr 1
    unfold busyN
    rw [List.filter_filter]
    refine List.filter_congr fun j _ => ?_
    show (decide (k < bF ds t p j) && decide (k - 1 < bF ds t p j)) = decide (k < bF ds t p j)
    by_cases z : k < bF ds t p j
    · rw [decide_eq_true z, decide_eq_true (by omega)]; rfl
    · rw [decide_eq_false z]; rfl
  rw [eb]
  simp only [sq_nx, sSeq_ap, sAsg_ap, e2_ap, e1_ap, eName_ap, eLc_ap, iR1_ap, aCons_ap, aNil_ap, dLen_lst, ret_ap, List.getElem?_cons_zero, List.getElem?_cons_succ, wipeE, List.set_cons_zero, List.set_cons_succ, List.length_map]
  refine ⟨⟨small62_of (by omega) (by omega), small_leni (by omega)⟩, ?_⟩
  rw [Int.toNat_natCast]
  refine compM_map (p := fun x => match x with | .int i => decide (ds.getD i.toNat 0 = k) | _ => false) (g := fun x => x) (fun x hx => ?_) ?_
  · obtain ⟨j, hj, rfl⟩ := List.mem_map.mp hx
    have hj := List.mem_range.mp hj
    rw [Int.zero_add]
    refine ⟨_, rfl, fun W RB E h => ?_, fun _ W R E h => ?_⟩
    · have e1 := atI_int ds j hj
      simp only [ret_ap, bnd_ap, ask_ap, fail_ap, noE_ap, eName_ap, eOwn_ap, eC_ap, e1_ap, e2_ap, e2g_ap, e3_ap, tst_ap, bAnd_ap, bOr_ap, bNot_ap, bYes_ap, vAnd_ap, vOr_ap, vNot_ap, tru_ap, eIf_ap, aNil_ap, aCons_ap, aStar_ap, eTup_ap, eLst_ap, eTupS_ap, eLstS_ap, eCall_ap, eRef_ap, eIsi_ap, eIsi2_ap, iSeq_ap, iEn_ap, iR1_ap, iR2_ap, iR3_ap, eLc_ap, sNil_ap, sSeq_ap, sFrz_ap, sExpr_ap, sRet_ap, sAsg_ap, sOwn_ap, sIf_ap, sFor_ap, sAug_ap, sApp_ap, sExt_ap, sRaise_ap, gN_ap, gT_ap, gsC_ap, gs0_ap, sq_rt, sq_ex, sq_bk, sq_ct, lp_rt, lp_ex, lp_bk, lp_ct, lp_nx, kS_rt, kS_ex, kS_nx, List.getElem?_cons_zero, List.getElem?_cons_succ, List.set_cons_zero, List.set_cons_succ, Option.bind_some, dLen_lst, dLen_tup, dLen_dct, dLen_str, dAdd_ii, dAdd_ss, dAdd_ll, dAdd_tt, dSub_ii, dMul_ii, dMul_li, dFdiv_ii, dMod_ii, dPow_ii, dNeg_i, dCmp_ii, dSum_l, dAll_l, dAny_l, dAbs_i, dInt_i, dInt_b, dList_l, dList_t, dTuple_l, dTuple_t, dMax2_ii, dMin2_ii, dAddI_ii, dRev_l, dIx_l, dIx_t, dIx_d, orFail_some, orFail_none, tru_non, ty_non, tru_bl, ty_bl, tru_int, ty_int, tru_str, ty_str, tru_lst, ty_lst, tru_tup, ty_tup, tru_dct, ty_dct, its_lst, items_lst, its_tup, items_tup, isL_l, dIsN, dNotN, if_true, if_false, Bool.not_true, Bool.not_false, true_and, and_true, wipeE, isTy_NoneType_bool, isTy_NoneType_int, isTy_NoneType_str, isTy_NoneType_list, isTy_NoneType_tuple, isTy_NoneType_dict, isTy_bool_bool, isTy_bool_int, isTy_bool_str, isTy_bool_list, isTy_bool_tuple, isTy_bool_dict, isTy_int_bool, isTy_int_int, isTy_int_str, isTy_int_list, isTy_int_tuple, isTy_int_dict, isTy_str_bool, isTy_str_int, isTy_str_str, isTy_str_list, isTy_str_tuple, isTy_str_dict, isTy_list_bool, isTy_list_int, isTy_list_str, isTy_list_list, isTy_list_tuple, isTy_list_dict, isTy_tuple_bool, isTy_tuple_int, isTy_tuple_str, isTy_tuple_list, isTy_tuple_tuple, isTy_tuple_dict, isTy_dict_bool, isTy_dict_int, isTy_dict_str, isTy_dict_list, isTy_dict_tuple, isTy_dict_dict, sMulti_ap, giveE, eSl_ap, pN_ap, pS_ap, dSl_l, dSl_t, isN_non, isN_bl, isN_int, isN_str, isN_lst, isN_tup, isN_dct, isN_fn, isN_row, Bool.or_true, Bool.or_false, Bool.true_or, Bool.false_or, reduceCtorEq, eq_self, ↓reduceIte, e1, dEqB_int']
      have h : RB (decide (ds.getD ((j : Nat) : Int).toNat 0 = k)) W := h
      rw [Int.toNat_natCast] at h
      exact h
    · simp only [ret_ap, bnd_ap, ask_ap, fail_ap, noE_ap, eName_ap, eOwn_ap, eC_ap, e1_ap, e2_ap, e2g_ap, e3_ap, tst_ap, bAnd_ap, bOr_ap, bNot_ap, bYes_ap, vAnd_ap, vOr_ap, vNot_ap, tru_ap, eIf_ap, aNil_ap, aCons_ap, aStar_ap, eTup_ap, eLst_ap, eTupS_ap, eLstS_ap, eCall_ap, eRef_ap, eIsi_ap, eIsi2_ap, iSeq_ap, iEn_ap, iR1_ap, iR2_ap, iR3_ap, eLc_ap, sNil_ap, sSeq_ap, sFrz_ap, sExpr_ap, sRet_ap, sAsg_ap, sOwn_ap, sIf_ap, sFor_ap, sAug_ap, sApp_ap, sExt_ap, sRaise_ap, gN_ap, gT_ap, gsC_ap, gs0_ap, sq_rt, sq_ex, sq_bk, sq_ct, lp_rt, lp_ex, lp_bk, lp_ct, lp_nx, kS_rt, kS_ex, kS_nx, List.getElem?_cons_zero, List.getElem?_cons_succ, List.set_cons_zero, List.set_cons_succ, Option.bind_some, dLen_lst, dLen_tup, dLen_dct, dLen_str, dAdd_ii, dAdd_ss, dAdd_ll, dAdd_tt, dSub_ii, dMul_ii, dMul_li, dFdiv_ii, dMod_ii, dPow_ii, dNeg_i, dCmp_ii, dSum_l, dAll_l, dAny_l, dAbs_i, dInt_i, dInt_b, dList_l, dList_t, dTuple_l, dTuple_t, dMax2_ii, dMin2_ii, dAddI_ii, dRev_l, dIx_l, dIx_t, dIx_d, orFail_some, orFail_none, tru_non, ty_non, tru_bl, ty_bl, tru_int, ty_int, tru_str, ty_str, tru_lst, ty_lst, tru_tup, ty_tup, tru_dct, ty_dct, its_lst, items_lst, its_tup, items_tup, isL_l, dIsN, dNotN, if_true, if_false, Bool.not_true, Bool.not_false, true_and, and_true, wipeE, isTy_NoneType_bool, isTy_NoneType_int, isTy_NoneType_str, isTy_NoneType_list, isTy_NoneType_tuple, isTy_NoneType_dict, isTy_bool_bool, isTy_bool_int, isTy_bool_str, isTy_bool_list, isTy_bool_tuple, isTy_bool_dict, isTy_int_bool, isTy_int_int, isTy_int_str, isTy_int_list, isTy_int_tuple, isTy_int_dict, isTy_str_bool, isTy_str_int, isTy_str_str, isTy_str_list, isTy_str_tuple, isTy_str_dict, isTy_list_bool, isTy_list_int, isTy_list_str, isTy_list_list, isTy_list_tuple, isTy_list_dict, isTy_tuple_bool, isTy_tuple_int, isTy_tuple_str, isTy_tuple_list, isTy_tuple_tuple, isTy_tuple_dict, isTy_dict_bool, isTy_dict_int, isTy_dict_str, isTy_dict_list, isTy_dict_tuple, isTy_dict_dict, sMulti_ap, giveE, eSl_ap, pN_ap, pS_ap, dSl_l, dSl_t, isN_non, isN_bl, isN_int, isN_str, isN_lst, isN_tup, isN_dct, isN_fn, isN_row, Bool.or_true, Bool.or_false, Bool.true_or, Bool.false_or, reduceCtorEq, eq_self, ↓reduceIte]
      exact h
  have eq2 : ((rangeD 0 ds.length).filter fun x => match x with | .int i => decide (ds.getD i.toNat 0 = k) | _ => false).map (fun x => x) = ((List.range (m' - m)).map (m + ·)).map fun j => D.int (j : Nat) := by
    rw [← days_at hmm hm' (fun i hi => by have := S.d1 i hi; omega) (fun i h1 h2 => by
      have := d1 i h2
      have := S.d2 i h1 (by omega)
      omega) d2]
    unfold rangeD
    rw [List.map_id', List.filter_map]
    have e : (List.range ds.length).filter ((fun x : D => match x with | .int i => decide (ds.getD i.toNat 0 = k) | _ => false) ∘ fun i : Nat => D.int (0 + (i : Int))) = (List.range ds.length).filter fun i => decide (ds.getD i 0 = k) := List.filter_congr fun i _ => by
      show decide (ds.getD (0 + (i : Int)).toNat 0 = k) = _
      rw [Int.zero_add, Int.toNat_natCast]
    rw [e]
    refine List.map_congr_left fun i _ => ?_
    rw [Int.zero_add]
  rw [eq2]
  have eq3 : ((List.range (m - n)).map (n + ·)).map (fun j => D.int (j : Nat)) ++ ((List.range (m' - m)).map (m + ·)).map (fun j => D.int (j : Nat)) = ((List.range (m' - n)).map (n + ·)).map fun j => D.int (j : Nat) := by
    rw [show m' - n = (m - n) + (m' - m) by omega, List.range_add, List.map_append, List.map_append]
    congr 1
    rw [List.map_map, List.map_map, List.map_map]
    refine List.map_congr_left fun i _ => ?_
    show D.int ((m + i : Nat) : Int) = D.int ((n + (m - n + i) : Nat) : Int)
    congr 2
    omega
  show dAdd (.lst _) (.lst _) _ _ _
  rw [dAdd_ll, eq3]
  simp only [ask_ap, ret_ap, gN_ap, sq_nx, sSeq_ap, sFor_ap, iR1_ap, aCons_ap, aNil_ap, eName_ap, List.getElem?_cons_zero, List.getElem?_cons_succ, List.set_cons_zero, List.set_cons_succ, List.length_map, List.length_range]
  refine ⟨small_len (by omega), ⟨small62_of (by omega) (by omega), small_leni (by omega)⟩, ?_⟩
  refine forM_inv (fun j e w => ∃ n' b', n ≤ n' ∧ n' ≤ m' ∧ (∀ i, i < n' → bF ds t p i - t ≤ k) ∧ (∀ i, n' ≤ i → i < ds.length → k ≤ bF ds t p i - t) ∧ ((n' = m' ∨ p + 1 ≤ (busyN ds t p n' k).length) ∨ j ≤ (busyN ds t p n' k).length) ∧ e = shE ds t p n' m' (busyN ds t p n' k) k a b' ∧ w = W)
    ⟨n, b, Nat.le_refl _, by omega, (fun i hi => by have := S.s1 i hi; omega), (fun i h1 h2 => by have := S.s2 i h1 h2; omega), .inr (Nat.zero_le _), rfl, rfl⟩ ?_ ?_
  · rintro j d e w P hd ⟨n', b', q1, q2, q3, q4, q5, rfl, rfl⟩ hP
    refine ⟨_, rfl, ?_⟩
    refine sh_inner F ht ht2 hp hk hm' q2 d1 q4 (fun c1 c2 c3 => ?_) fun c => ?_
    · refine hP _ _ ⟨n' + 1, .v d, by omega, c1, fun i hi => ?_, fun i h1 h2 => q4 i (by omega) h2, ?_, rfl, rfl⟩
      · by_cases z : i = n'
        · rw [z]; omega
        · exact q3 i (by omega)
      · right
        rw [busy_succ n' k (by omega), List.length_append]
        rcases q5 with q5 | q5
        · omega
        · show _ ≤ _ + 1
          omega
    · exact hP _ _ ⟨n', .v d, q1, q2, q3, q4, .inl c, rfl, rfl⟩
  · rintro e w ⟨n', b', q1, q2, q3, q4, q5, rfl, rfl⟩
    rw [rangeD_length, Int.toNat_natCast] at q5
    have blk : n' = m' ∨ p + 1 ≤ (busyN ds t p n' k).length := by
      rcases q5 with q5 | q5
      · exact q5
      · exact .inr q5
    simp only [ret_ap, bnd_ap, ask_ap, fail_ap, noE_ap, eName_ap, eOwn_ap, eC_ap, e1_ap, e2_ap, e2g_ap, e3_ap, tst_ap, bAnd_ap, bOr_ap, bNot_ap, bYes_ap, vAnd_ap, vOr_ap, vNot_ap, tru_ap, eIf_ap, aNil_ap, aCons_ap, aStar_ap, eTup_ap, eLst_ap, eTupS_ap, eLstS_ap, eCall_ap, eRef_ap, eIsi_ap, eIsi2_ap, iSeq_ap, iEn_ap, iR1_ap, iR2_ap, iR3_ap, eLc_ap, sNil_ap, sSeq_ap, sFrz_ap, sExpr_ap, sRet_ap, sAsg_ap, sOwn_ap, sIf_ap, sFor_ap, sAug_ap, sApp_ap, sExt_ap, sRaise_ap, gN_ap, gT_ap, gsC_ap, gs0_ap, sq_rt, sq_ex, sq_bk, sq_ct, lp_rt, lp_ex, lp_bk, lp_ct, lp_nx, kS_rt, kS_ex, kS_nx, List.getElem?_cons_zero, List.getElem?_cons_succ, List.set_cons_zero, List.set_cons_succ, Option.bind_some, dLen_lst, dLen_tup, dLen_dct, dLen_str, dAdd_ii, dAdd_ss, dAdd_ll, dAdd_tt, dSub_ii, dMul_ii, dMul_li, dFdiv_ii, dMod_ii, dPow_ii, dNeg_i, dCmp_ii, dSum_l, dAll_l, dAny_l, dAbs_i, dInt_i, dInt_b, dList_l, dList_t, dTuple_l, dTuple_t, dMax2_ii, dMin2_ii, dAddI_ii, dRev_l, dIx_l, dIx_t, dIx_d, orFail_some, orFail_none, tru_non, ty_non, tru_bl, ty_bl, tru_int, ty_int, tru_str, ty_str, tru_lst, ty_lst, tru_tup, ty_tup, tru_dct, ty_dct, its_lst, items_lst, its_tup, items_tup, isL_l, dIsN, dNotN, if_true, if_false, Bool.not_true, Bool.not_false, true_and, and_true, wipeE, isTy_NoneType_bool, isTy_NoneType_int, isTy_NoneType_str, isTy_NoneType_list, isTy_NoneType_tuple, isTy_NoneType_dict, isTy_bool_bool, isTy_bool_int, isTy_bool_str, isTy_bool_list, isTy_bool_tuple, isTy_bool_dict, isTy_int_bool, isTy_int_int, isTy_int_str, isTy_int_list, isTy_int_tuple, isTy_int_dict, isTy_str_bool, isTy_str_int, isTy_str_str, isTy_str_list, isTy_str_tuple, isTy_str_dict, isTy_list_bool, isTy_list_int, isTy_list_str, isTy_list_list, isTy_list_tuple, isTy_list_dict, isTy_tuple_bool, isTy_tuple_int, isTy_tuple_str, isTy_tuple_list, isTy_tuple_tuple, isTy_tuple_dict, isTy_dict_bool, isTy_dict_int, isTy_dict_str, isTy_dict_list, isTy_dict_tuple, isTy_dict_dict, sMulti_ap, giveE, eSl_ap, pN_ap, pS_ap, dSl_l, dSl_t, isN_non, isN_bl, isN_int, isN_str, isN_lst, isN_tup, isN_dct, isN_fn, isN_row, Bool.or_true, Bool.or_false, Bool.true_or, Bool.false_or, reduceCtorEq, eq_self, ↓reduceIte, sq_nx]
    exact h n' m' b' ⟨q2, hm', q3, waits F ht hm' q2 d2 blk, d1, d2⟩
theorem law_shop_ap (F : Days ds) (ht : 1 ≤ t) (ht2 : t ≤ 12) (hp : p ≤ 3) (h : R (intsD (backsI ds t p)) W) : c_law_shop [intsD ds, .int t, .int (p + 1 : Nat)] W R E := by
  have f60 := F.len
  obtain ⟨M, hM0, hM1, hM2, hmax⟩ := max_ap F
  show sm_law_shop [.v (intsD ds), .v (.int t), .v (.int (p + 1 : Nat)), .no, .no, .no, .no, .no, .no, .no, .no] W (kS R E)
  unfold sm_law_shop
  have hT : (ds.length : Int) * (t + 1) ≤ 60 * 13 := by
    calc (ds.length : Int) * (t + 1) ≤ 60 * (t + 1) := Int.mul_le_mul_of_nonneg_right (by omega) (by omega)
      _ ≤ 60 * 13 := Int.mul_le_mul_of_nonneg_left (by omega) (by omega)
  have hT0 : 0 ≤ (ds.length : Int) * (t + 1) := Int.mul_nonneg (by omega) (by omega)
  simp only [sSeq_ap, sMulti_ap, aCons_ap, aNil_ap, eLst_ap, eC_ap, giveE, sq_nx, sFor_ap, iR1_ap, e2_ap, e1_ap, eName_ap, List.getElem?_cons_zero, List.getElem?_cons_succ, List.set_cons_zero, List.set_cons_succ, dLen_lst, dAdd_ii, dMul_ii, dAdd_ll, ask_ap, ret_ap, List.length_map]
  refine ⟨CMul_of (by omega) (by omega), small_len (by simp; omega), hmax ?_⟩
  refine ⟨⟨small62_of (by omega) (by omega), small_leni' (by omega)⟩, ?_⟩
  refine forM_inv (fun i e w => ∃ n m a b, Shop ds t p n m ((i : Nat) - 1 : Int) ∧ e = shE ds t p n m (busyN ds t p n ((i : Nat) - 1 : Int)) (i : Nat) a b ∧ w = W) ⟨0, 0, .no, .no, ⟨Nat.le_refl _, Nat.zero_le _, fun i hi => by omega, fun i _ hi => ?_, fun i hi => by omega, fun i _ hi => ?_⟩, rfl, rfl⟩ ?_ ?_
  · rw [st_eq]
    have := (F.get hi).1
    omega
  · have := (F.get hi).1
    omega
  · rintro i d e w P hd ⟨n, m, a, b, S, rfl, rfl⟩ hP
    refine ⟨_, rfl, ?_⟩
    refine sh_body F ht (by omega) (by omega) (by omega) S fun n' m' b' S' => ?_
    refine hP _ _ ⟨n', m', .v d, b', ?_, ?_, rfl⟩
    · rw [show ((i + 1 : Nat) : Int) - 1 = (i : Nat) by omega]
      exact S'
    · rw [show ((i + 1 : Nat) : Int) - 1 = (i : Nat) by omega, show ((i + 1 : Nat) : Int) = (i : Nat) + 1 by omega]
  · rintro e w ⟨n, m, a, b, S, rfl, rfl⟩
    rw [rangeD_length] at S
    have hn : n = ds.length := by
      by_cases z : n < ds.length
      · have h1 := S.s2 n (Nat.le_refl _) z
        have h2 := b_le (p := p) F ht M hM0 hM2 n z
        have h3 : ((n : Int) + 1) * t ≤ ds.length * t := Int.mul_le_mul_of_nonneg_right (by omega) (by omega)
        rw [Int.mul_add, Int.mul_one] at h1 hT0
        omega
      · have := S.nm
        have := S.ml
        omega
    rw [rangeD_length, hn]
    simp only [ret_ap, bnd_ap, ask_ap, fail_ap, noE_ap, eName_ap, eOwn_ap, eC_ap, e1_ap, e2_ap, e2g_ap, e3_ap, tst_ap, bAnd_ap, bOr_ap, bNot_ap, bYes_ap, vAnd_ap, vOr_ap, vNot_ap, tru_ap, eIf_ap, aNil_ap, aCons_ap, aStar_ap, eTup_ap, eLst_ap, eTupS_ap, eLstS_ap, eCall_ap, eRef_ap, eIsi_ap, eIsi2_ap, iSeq_ap, iEn_ap, iR1_ap, iR2_ap, iR3_ap, eLc_ap, sNil_ap, sSeq_ap, sFrz_ap, sExpr_ap, sRet_ap, sAsg_ap, sOwn_ap, sIf_ap, sFor_ap, sAug_ap, sApp_ap, sExt_ap, sRaise_ap, gN_ap, gT_ap, gsC_ap, gs0_ap, sq_rt, sq_ex, sq_bk, sq_ct, lp_rt, lp_ex, lp_bk, lp_ct, lp_nx, kS_rt, kS_ex, kS_nx, List.getElem?_cons_zero, List.getElem?_cons_succ, List.set_cons_zero, List.set_cons_succ, Option.bind_some, dLen_lst, dLen_tup, dLen_dct, dLen_str, dAdd_ii, dAdd_ss, dAdd_ll, dAdd_tt, dSub_ii, dMul_ii, dMul_li, dFdiv_ii, dMod_ii, dPow_ii, dNeg_i, dCmp_ii, dSum_l, dAll_l, dAny_l, dAbs_i, dInt_i, dInt_b, dList_l, dList_t, dTuple_l, dTuple_t, dMax2_ii, dMin2_ii, dAddI_ii, dRev_l, dIx_l, dIx_t, dIx_d, orFail_some, orFail_none, tru_non, ty_non, tru_bl, ty_bl, tru_int, ty_int, tru_str, ty_str, tru_lst, ty_lst, tru_tup, ty_tup, tru_dct, ty_dct, its_lst, items_lst, its_tup, items_tup, isL_l, dIsN, dNotN, if_true, if_false, Bool.not_true, Bool.not_false, true_and, and_true, wipeE, isTy_NoneType_bool, isTy_NoneType_int, isTy_NoneType_str, isTy_NoneType_list, isTy_NoneType_tuple, isTy_NoneType_dict, isTy_bool_bool, isTy_bool_int, isTy_bool_str, isTy_bool_list, isTy_bool_tuple, isTy_bool_dict, isTy_int_bool, isTy_int_int, isTy_int_str, isTy_int_list, isTy_int_tuple, isTy_int_dict, isTy_str_bool, isTy_str_int, isTy_str_str, isTy_str_list, isTy_str_tuple, isTy_str_dict, isTy_list_bool, isTy_list_int, isTy_list_str, isTy_list_list, isTy_list_tuple, isTy_list_dict, isTy_tuple_bool, isTy_tuple_int, isTy_tuple_str, isTy_tuple_list, isTy_tuple_tuple, isTy_tuple_dict, isTy_dict_bool, isTy_dict_int, isTy_dict_str, isTy_dict_list, isTy_dict_tuple, isTy_dict_dict, sMulti_ap, giveE, eSl_ap, pN_ap, pS_ap, dSl_l, dSl_t, isN_non, isN_bl, isN_int, isN_str, isN_lst, isN_tup, isN_dct, isN_fn, isN_row, Bool.or_true, Bool.or_false, Bool.true_or, Bool.false_or, reduceCtorEq, eq_self, ↓reduceIte, sq_nx]
    exact h
end
end K19

set_option maxRecDepth 100000
set_option maxHeartbeats 1000000
namespace K19
open PySem PySem.Spec PyProof.Rows L2 Y
open PySem.W (AllAlike Sortable dataLe dataLt)
section
variable {ds : List Int} {t : Int} {p : Nat}
/-! ### plain facts -/
theorem plain_length (ds : List Int) (t : Int) : (plainB ds t).length = ds.length := List.length_map ..
theorem plain_gt (ht : 1 ≤ t) (i : Nat) (hi : i < ds.length) : ds.getD i 0 < (plainB ds t).getD i 0 := by
  unfold plainB
  rw [List.getD_eq_getElem?_getD, List.getD_eq_getElem?_getD, List.getElem?_map, List.getElem?_eq_getElem hi]
  show ds[i] < ds[i] + t
  omega
theorem backs_gt (ht : 1 ≤ t) (i : Nat) (hi : i < ds.length) : ds.getD i 0 < (backsI ds t p).getD i 0 := by
  have e : (backsI ds t p).getD i 0 = bF ds t p i := by
    unfold backsI
    rw [List.getD_eq_getElem?_getD, List.getElem?_map, List.getElem?_range hi]
    rfl
  rw [e, bF_eq]
  omega
theorem away_pos {bs : List Int} (hb : bs.length = ds.length) (hg : ∀ i, i < ds.length → ds.getD i 0 < bs.getD i 0) (i : Nat) (hi : i < ds.length) : 1 ≤ awayN ds bs i := by
  unfold awayN
  have : 0 < (bs.take (i + 1)).countP fun b => decide (ds.getD i 0 < b) := by
    rw [List.countP_pos_iff]
    refine ⟨bs.getD i 0, ?_, decide_eq_true (hg i hi)⟩
    have e : bs.take (i + 1) = bs.take i ++ [bs[i]'(by omega)] := by rw [List.take_add_one, List.getElem?_eq_getElem (by omega)]; rfl
    rw [e, List.getD_eq_getElem?_getD, List.getElem?_eq_getElem (by omega)]
    exact List.mem_append_right _ (List.mem_singleton.mpr rfl)
  omega
theorem first_max (aw : List Int) : firstI aw (max0 aw) = .int (-1) := by
  have e : aw.findIdx? (fun a => decide (max0 aw < a)) = none := List.findIdx?_eq_none_iff.mpr fun x hx => by
    cases aw with
    | nil => cases hx
    | cons a as =>
      have := maxI_ge as a
      show decide (maxI a as < x) = false
      rcases List.mem_cons.mp hx with rfl | hx
      · exact decide_eq_false (by omega)
      · exact decide_eq_false (by have := this.2 x hx; omega)
  unfold firstI
  rw [e]
theorem max_mem {aw : List Int} (h : 0 < max0 aw) : max0 aw ∈ aw := by
  cases aw with
  | nil => exact absurd h (by decide)
  | cons a as => exact maxI_mem as a
theorem le_max {aw : List Int} {x : Int} (h : x ∈ aw) : x ≤ max0 aw := by
  cases aw with
  | nil => cases h
  | cons a as =>
    rcases List.mem_cons.mp h with rfl | h
    · exact (maxI_ge as x).1
    · exact (maxI_ge as a).2 x h
theorem first_less {aw : List Int} (h : 0 < max0 aw) : ∃ i : Nat, firstI aw (max0 aw - 1) = .int (i : Nat) := by
  cases q : aw.findIdx? (fun a => decide (max0 aw - 1 < a)) with
  | none =>
    have := List.findIdx?_eq_none_iff.mp q _ (max_mem h)
    have := of_decide_eq_false this
    omega
  | some i =>
    refine ⟨i, ?_⟩
    unfold firstI
    rw [q]
theorem max_zero {bs : List Int} (hb : bs.length = ds.length) (hg : ∀ i, i < ds.length → ds.getD i 0 < bs.getD i 0) : (max0 (awayI ds bs) = 0 ↔ ds = []) ∧ 0 ≤ max0 (awayI ds bs) := by
  cases hd : ds with
  | nil =>
    refine ⟨⟨fun _ => rfl, fun _ => rfl⟩, ?_⟩
    show (0 : Int) ≤ 0
    decide
  | cons a as =>
    rw [← hd]
    have h0 : 0 < ds.length := by rw [hd]; simp
    have h1 := away_pos hb hg 0 h0
    have h2 := le_max (List.mem_of_getElem? (awayI_get ds bs 0 h0))
    refine ⟨⟨fun z => by omega, fun z => by rw [z] at h0; simp at h0⟩, by omega⟩
theorem max_bound (bs : List Int) (hb : bs.length = ds.length) (hl : ds.length ≤ 60) : max0 (awayI ds bs) ≤ 60 := by
  by_cases h : 0 < max0 (awayI ds bs)
  · obtain ⟨i, hi, e⟩ := List.mem_map.mp (max_mem h)
    have e : awayN ds bs i = max0 (awayI ds bs) := e
    rw [← e]
    unfold awayN
    have := List.countP_le_length (p := fun b => decide (ds.getD i 0 < b)) (l := bs.take (i + 1))
    rw [List.length_take] at this
    omega
  · omega
theorem away_plain (i : Nat) : awayN ds (plainB ds t) i = ((ds.take (i + 1)).countP fun o => decide (ds.getD i 0 < o + t) : Nat) := by
  unfold awayN plainB
  rw [← List.map_take, List.countP_map]
  rfl
/-- the most that are away at once are the most within a turn -/
theorem max_best (F : Days ds) (ht : 1 ≤ t) {d : Int} (h : IsBest ds t d) : max0 (awayI ds (plainB ds t)) = (cntN ds t d : Nat) := by
  have hb := plain_length ds t
  have hg := fun i hi => plain_gt (ds := ds) (t := t) ht i hi
  have hds : ds ≠ [] := fun z => by have := h.mem; rw [z] at this; cases this
  obtain ⟨z1, z2⟩ := max_zero hb hg
  have hpos : 0 < max0 (awayI ds (plainB ds t)) := by
    have : max0 (awayI ds (plainB ds t)) ≠ 0 := fun z => hds (z1.mp z)
    omega
  have up : max0 (awayI ds (plainB ds t)) ≤ (cntN ds t d : Nat) := by
    obtain ⟨i, hi, e⟩ := List.mem_map.mp (max_mem hpos)
    have hi := List.mem_range.mp hi
    have e : awayN ds (plainB ds t) i = max0 (awayI ds (plainB ds t)) := e
    rw [← e, away_plain]
    have hin : ds.getD i 0 ∈ ds.take (i + 1) := by
      have e : ds.take (i + 1) = ds.take i ++ [ds[i]] := by rw [List.take_add_one, List.getElem?_eq_getElem hi]; rfl
      rw [e, List.getD_eq_getElem?_getD, List.getElem?_eq_getElem hi]
      exact List.mem_append_right _ (List.mem_singleton.mpr rfl)
    cases q : (ds.take (i + 1)).find? (fun o => decide (ds.getD i 0 < o + t)) with
    | none => exact absurd (decide_eq_true (show ds.getD i 0 < ds.getD i 0 + t by omega)) (List.find?_eq_none.mp q _ hin)
    | some e =>
      have he := List.mem_of_find?_eq_some q
      have he2 : ds.getD i 0 < e + t := of_decide_eq_true (List.find?_some (p := fun o => decide (ds.getD i 0 < o + t)) q)
      have hsort : (ds.take (i + 1)).Pairwise fun a b : Int => decide (a ≤ b) = true := (F.srt.sublist (List.take_sublist _ _)).imp fun h => decide_eq_true h
      have c1 : (ds.take (i + 1)).countP (fun o => decide (ds.getD i 0 < o + t)) ≤ (ds.take (i + 1)).countP fun o => decide (e ≤ o) && decide (o < e + t) := by
        refine List.countP_mono_left fun o ho hp => ?_
        rw [Bool.and_eq_true]
        have h1 : e ≤ o := by
          rcases find_le (le := fun a b : Int => decide (a ≤ b)) _ hsort q ho hp with z | z
          · omega
          · exact of_decide_eq_true z
        have h2 : o ≤ ds.getD i 0 := by
          obtain ⟨j, hj⟩ := List.mem_iff_getElem?.mp ho
          rw [List.getElem?_take] at hj
          split at hj
          · rename_i hlt
            have := F.le (show j ≤ i by omega) hi
            rw [List.getD_eq_getElem?_getD, hj] at this
            exact this
          · cases hj
        exact ⟨decide_eq_true h1, decide_eq_true (by omega)⟩
      have c2 : (ds.take (i + 1)).countP (fun o => decide (e ≤ o) && decide (o < e + t)) ≤ cntN ds t e := (List.take_sublist _ _).countP_le
      have := h.best e (List.mem_of_mem_take he)
      omega
  have dn : (cntN ds t d : Int) ≤ max0 (awayI ds (plainB ds t)) := by
    obtain ⟨m, hm, d1, d2⟩ := upto F (d + t - 1)
    obtain ⟨k, hk⟩ := List.mem_iff_getElem?.mp h.mem
    obtain ⟨hkl, hkd⟩ := List.getElem?_eq_some_iff.mp hk
    have hkm : k < m := by
      by_cases z : k < m
      · exact z
      · have := d2 k (by omega) hkl
        rw [List.getD_eq_getElem?_getD, hk] at this
        have this : d + t - 1 < d := this
        omega
    have hin := le_max (List.mem_of_getElem? (awayI_get ds (plainB ds t) (m - 1) (by omega)))
    rw [away_plain, show m - 1 + 1 = m by omega] at hin
    have hlast := d1 (m - 1) (by omega)
    have e : cntN ds t d = (ds.take m).countP fun o => decide (d ≤ o) && decide (o < d + t) := by
      unfold cntN
      conv => lhs; rw [← List.take_append_drop m ds]
      rw [List.countP_append]
      have : (ds.drop m).countP (fun o => decide (d ≤ o) && decide (o < d + t)) = 0 := by
        rw [List.countP_eq_zero]
        intro o ho
        obtain ⟨j, hj⟩ := List.mem_iff_getElem?.mp ho
        rw [List.getElem?_drop] at hj
        obtain ⟨hjl, _⟩ := List.getElem?_eq_some_iff.mp hj
        have := d2 (m + j) (by omega) hjl
        rw [List.getD_eq_getElem?_getD, hj] at this
        have this : d + t - 1 < o := this
        rw [decide_eq_false (show ¬ o < d + t by omega), Bool.and_false]
        exact Bool.false_ne_true
      omega
    have c : (ds.take m).countP (fun o => decide (d ≤ o) && decide (o < d + t)) ≤ (ds.take m).countP fun o => decide (ds.getD (m - 1) 0 < o + t) := by
      refine List.countP_mono_left fun o _ hp => ?_
      rw [Bool.and_eq_true] at hp
      have := of_decide_eq_true hp.1
      exact decide_eq_true (by omega)
    omega
  omega
end
/-! ### the law, one statement at a time -/
abbrev KL : Ks := ⟨fun _ _ => False, fun d _ => d = .bl true, fun _ _ => False, fun _ _ => False, fun _ _ => False⟩
section
variable {rest : SM} {ds : List Int} {t : Int} {p : Nat} {a2 a3 : Sl}
theorem law0 (h : ∀ many most : Int, 0 ≤ many → many ≤ 60 → 1 ≤ most → most ≤ 300 → rest [.no, .v .row, .v (.int many), .v (.int most), .no, .no, .no, .no, .no, .no, .no, .no, .no, .no, .no, .no, .no, .no, .no, .no, .no] [] KL) : sSeq (sAsg (gT (gsC (gN 2) (gsC (gN 3) gs0))) (eIf (tst (e2 dEq (eCall sTaken (aCons (eName 1) (aCons (eC (.int 5)) aNil))) (eC (.int 0)))) (eTup (aCons (eC (.int 60)) (aCons (eC (.int 300)) aNil))) (eTup (aCons (eC (.int 12)) (aCons (eC (.int 30)) aNil))))) rest [.no, .v .row, .no, .no, .no, .no, .no, .no, .no, .no, .no, .no, .no, .no, .no, .no, .no, .no, .no, .no, .no] [] KL := by
  simp only [ret_ap, bnd_ap, ask_ap, fail_ap, noE_ap, eName_ap, eOwn_ap, eC_ap, e1_ap, e2_ap, e2g_ap, e3_ap, tst_ap, bAnd_ap, bOr_ap, bNot_ap, bYes_ap, vAnd_ap, vOr_ap, vNot_ap, tru_ap, eIf_ap, aNil_ap, aCons_ap, aStar_ap, eTup_ap, eLst_ap, eTupS_ap, eLstS_ap, eCall_ap, eRef_ap, eIsi_ap, eIsi2_ap, iSeq_ap, iEn_ap, iR1_ap, iR2_ap, iR3_ap, eLc_ap, sNil_ap, sSeq_ap, sFrz_ap, sExpr_ap, sRet_ap, sAsg_ap, sOwn_ap, sIf_ap, sFor_ap, sAug_ap, sApp_ap, sExt_ap, sRaise_ap, gN_ap, gT_ap, gsC_ap, gs0_ap, sq_rt, sq_ex, sq_bk, sq_ct, lp_rt, lp_ex, lp_bk, lp_ct, lp_nx, kS_rt, kS_ex, kS_nx, List.getElem?_cons_zero, List.getElem?_cons_succ, List.set_cons_zero, List.set_cons_succ, Option.bind_some, dLen_lst, dLen_tup, dLen_dct, dLen_str, dAdd_ii, dAdd_ss, dAdd_ll, dAdd_tt, dSub_ii, dMul_ii, dMul_li, dFdiv_ii, dMod_ii, dPow_ii, dNeg_i, dCmp_ii, dSum_l, dAll_l, dAny_l, dAbs_i, dInt_i, dInt_b, dList_l, dList_t, dTuple_l, dTuple_t, dMax2_ii, dMin2_ii, dAddI_ii, dRev_l, dIx_l, dIx_t, dIx_d, orFail_some, orFail_none, tru_non, ty_non, tru_bl, ty_bl, tru_int, ty_int, tru_str, ty_str, tru_lst, ty_lst, tru_tup, ty_tup, tru_dct, ty_dct, its_lst, items_lst, its_tup, items_tup, isL_l, dIsN, dNotN, if_true, if_false, Bool.not_true, Bool.not_false, true_and, and_true, wipeE, isTy_NoneType_bool, isTy_NoneType_int, isTy_NoneType_str, isTy_NoneType_list, isTy_NoneType_tuple, isTy_NoneType_dict, isTy_bool_bool, isTy_bool_int, isTy_bool_str, isTy_bool_list, isTy_bool_tuple, isTy_bool_dict, isTy_int_bool, isTy_int_int, isTy_int_str, isTy_int_list, isTy_int_tuple, isTy_int_dict, isTy_str_bool, isTy_str_int, isTy_str_str, isTy_str_list, isTy_str_tuple, isTy_str_dict, isTy_list_bool, isTy_list_int, isTy_list_str, isTy_list_list, isTy_list_tuple, isTy_list_dict, isTy_tuple_bool, isTy_tuple_int, isTy_tuple_str, isTy_tuple_list, isTy_tuple_tuple, isTy_tuple_dict, isTy_dict_bool, isTy_dict_int, isTy_dict_str, isTy_dict_list, isTy_dict_tuple, isTy_dict_dict, sMulti_ap, giveE, eSl_ap, pN_ap, pS_ap, dSl_l, dSl_t, isN_non, isN_bl, isN_int, isN_str, isN_lst, isN_tup, isN_dct, isN_fn, isN_row, Bool.or_true, Bool.or_false, Bool.true_or, Bool.false_or, reduceCtorEq, eq_self, ↓reduceIte, sq_nx, taken_ap, dEqB_int]
  refine ⟨by decide, fun x h0 h1 => ?_⟩
  by_cases e : x = 0
  · rw [decide_eq_true e]
    simp only [ret_ap, bnd_ap, ask_ap, fail_ap, noE_ap, eName_ap, eOwn_ap, eC_ap, e1_ap, e2_ap, e2g_ap, e3_ap, tst_ap, bAnd_ap, bOr_ap, bNot_ap, bYes_ap, vAnd_ap, vOr_ap, vNot_ap, tru_ap, eIf_ap, aNil_ap, aCons_ap, aStar_ap, eTup_ap, eLst_ap, eTupS_ap, eLstS_ap, eCall_ap, eRef_ap, eIsi_ap, eIsi2_ap, iSeq_ap, iEn_ap, iR1_ap, iR2_ap, iR3_ap, eLc_ap, sNil_ap, sSeq_ap, sFrz_ap, sExpr_ap, sRet_ap, sAsg_ap, sOwn_ap, sIf_ap, sFor_ap, sAug_ap, sApp_ap, sExt_ap, sRaise_ap, gN_ap, gT_ap, gsC_ap, gs0_ap, sq_rt, sq_ex, sq_bk, sq_ct, lp_rt, lp_ex, lp_bk, lp_ct, lp_nx, kS_rt, kS_ex, kS_nx, List.getElem?_cons_zero, List.getElem?_cons_succ, List.set_cons_zero, List.set_cons_succ, Option.bind_some, dLen_lst, dLen_tup, dLen_dct, dLen_str, dAdd_ii, dAdd_ss, dAdd_ll, dAdd_tt, dSub_ii, dMul_ii, dMul_li, dFdiv_ii, dMod_ii, dPow_ii, dNeg_i, dCmp_ii, dSum_l, dAll_l, dAny_l, dAbs_i, dInt_i, dInt_b, dList_l, dList_t, dTuple_l, dTuple_t, dMax2_ii, dMin2_ii, dAddI_ii, dRev_l, dIx_l, dIx_t, dIx_d, orFail_some, orFail_none, tru_non, ty_non, tru_bl, ty_bl, tru_int, ty_int, tru_str, ty_str, tru_lst, ty_lst, tru_tup, ty_tup, tru_dct, ty_dct, its_lst, items_lst, its_tup, items_tup, isL_l, dIsN, dNotN, if_true, if_false, Bool.not_true, Bool.not_false, true_and, and_true, wipeE, isTy_NoneType_bool, isTy_NoneType_int, isTy_NoneType_str, isTy_NoneType_list, isTy_NoneType_tuple, isTy_NoneType_dict, isTy_bool_bool, isTy_bool_int, isTy_bool_str, isTy_bool_list, isTy_bool_tuple, isTy_bool_dict, isTy_int_bool, isTy_int_int, isTy_int_str, isTy_int_list, isTy_int_tuple, isTy_int_dict, isTy_str_bool, isTy_str_int, isTy_str_str, isTy_str_list, isTy_str_tuple, isTy_str_dict, isTy_list_bool, isTy_list_int, isTy_list_str, isTy_list_list, isTy_list_tuple, isTy_list_dict, isTy_tuple_bool, isTy_tuple_int, isTy_tuple_str, isTy_tuple_list, isTy_tuple_tuple, isTy_tuple_dict, isTy_dict_bool, isTy_dict_int, isTy_dict_str, isTy_dict_list, isTy_dict_tuple, isTy_dict_dict, sMulti_ap, giveE, eSl_ap, pN_ap, pS_ap, dSl_l, dSl_t, isN_non, isN_bl, isN_int, isN_str, isN_lst, isN_tup, isN_dct, isN_fn, isN_row, Bool.or_true, Bool.or_false, Bool.true_or, Bool.false_or, reduceCtorEq, eq_self, ↓reduceIte, sq_nx]
    exact h 60 300 (by decide) (by decide) (by decide) (by decide)
  · rw [decide_eq_false e]
    simp only [ret_ap, bnd_ap, ask_ap, fail_ap, noE_ap, eName_ap, eOwn_ap, eC_ap, e1_ap, e2_ap, e2g_ap, e3_ap, tst_ap, bAnd_ap, bOr_ap, bNot_ap, bYes_ap, vAnd_ap, vOr_ap, vNot_ap, tru_ap, eIf_ap, aNil_ap, aCons_ap, aStar_ap, eTup_ap, eLst_ap, eTupS_ap, eLstS_ap, eCall_ap, eRef_ap, eIsi_ap, eIsi2_ap, iSeq_ap, iEn_ap, iR1_ap, iR2_ap, iR3_ap, eLc_ap, sNil_ap, sSeq_ap, sFrz_ap, sExpr_ap, sRet_ap, sAsg_ap, sOwn_ap, sIf_ap, sFor_ap, sAug_ap, sApp_ap, sExt_ap, sRaise_ap, gN_ap, gT_ap, gsC_ap, gs0_ap, sq_rt, sq_ex, sq_bk, sq_ct, lp_rt, lp_ex, lp_bk, lp_ct, lp_nx, kS_rt, kS_ex, kS_nx, List.getElem?_cons_zero, List.getElem?_cons_succ, List.set_cons_zero, List.set_cons_succ, Option.bind_some, dLen_lst, dLen_tup, dLen_dct, dLen_str, dAdd_ii, dAdd_ss, dAdd_ll, dAdd_tt, dSub_ii, dMul_ii, dMul_li, dFdiv_ii, dMod_ii, dPow_ii, dNeg_i, dCmp_ii, dSum_l, dAll_l, dAny_l, dAbs_i, dInt_i, dInt_b, dList_l, dList_t, dTuple_l, dTuple_t, dMax2_ii, dMin2_ii, dAddI_ii, dRev_l, dIx_l, dIx_t, dIx_d, orFail_some, orFail_none, tru_non, ty_non, tru_bl, ty_bl, tru_int, ty_int, tru_str, ty_str, tru_lst, ty_lst, tru_tup, ty_tup, tru_dct, ty_dct, its_lst, items_lst, its_tup, items_tup, isL_l, dIsN, dNotN, if_true, if_false, Bool.not_true, Bool.not_false, true_and, and_true, wipeE, isTy_NoneType_bool, isTy_NoneType_int, isTy_NoneType_str, isTy_NoneType_list, isTy_NoneType_tuple, isTy_NoneType_dict, isTy_bool_bool, isTy_bool_int, isTy_bool_str, isTy_bool_list, isTy_bool_tuple, isTy_bool_dict, isTy_int_bool, isTy_int_int, isTy_int_str, isTy_int_list, isTy_int_tuple, isTy_int_dict, isTy_str_bool, isTy_str_int, isTy_str_str, isTy_str_list, isTy_str_tuple, isTy_str_dict, isTy_list_bool, isTy_list_int, isTy_list_str, isTy_list_list, isTy_list_tuple, isTy_list_dict, isTy_tuple_bool, isTy_tuple_int, isTy_tuple_str, isTy_tuple_list, isTy_tuple_tuple, isTy_tuple_dict, isTy_dict_bool, isTy_dict_int, isTy_dict_str, isTy_dict_list, isTy_dict_tuple, isTy_dict_dict, sMulti_ap, giveE, eSl_ap, pN_ap, pS_ap, dSl_l, dSl_t, isN_non, isN_bl, isN_int, isN_str, isN_lst, isN_tup, isN_dct, isN_fn, isN_row, Bool.or_true, Bool.or_false, Bool.true_or, Bool.false_or, reduceCtorEq, eq_self, ↓reduceIte, sq_nx]
    exact h 12 30 (by decide) (by decide) (by decide) (by decide)
theorem law1 {many most : Int} (m0 : 0 ≤ many) (m1 : many ≤ 60) (m2 : 1 ≤ most) (m3 : most ≤ 300) (h : ∀ ds, Days ds → rest [.no, .v .row, .v (.int many), .v (.int most), .v (intsD ds), .no, .no, .no, .no, .no, .no, .no, .no, .no, .no, .no, .no, .no, .no, .no, .no] [] KL) : sSeq (sAsg (gN 4) (e1 (dSorted false) (eLc [19] (gN 19) bYes (eCall sTaken (aCons (eName 1) (aCons (eName 3) aNil))) (iR1 (aCons (eCall sTaken (aCons (eName 1) (aCons (e2 dAdd (eName 2) (eC (.int 1))) aNil))) aNil))))) rest [.no, .v .row, .v (.int many), .v (.int most), .no, .no, .no, .no, .no, .no, .no, .no, .no, .no, .no, .no, .no, .no, .no, .no, .no] [] KL := by
  simp only [ret_ap, bnd_ap, ask_ap, fail_ap, noE_ap, eName_ap, eOwn_ap, eC_ap, e1_ap, e2_ap, e2g_ap, e3_ap, tst_ap, bAnd_ap, bOr_ap, bNot_ap, bYes_ap, vAnd_ap, vOr_ap, vNot_ap, tru_ap, eIf_ap, aNil_ap, aCons_ap, aStar_ap, eTup_ap, eLst_ap, eTupS_ap, eLstS_ap, eCall_ap, eRef_ap, eIsi_ap, eIsi2_ap, iSeq_ap, iEn_ap, iR1_ap, iR2_ap, iR3_ap, eLc_ap, sNil_ap, sSeq_ap, sFrz_ap, sExpr_ap, sRet_ap, sAsg_ap, sOwn_ap, sIf_ap, sFor_ap, sAug_ap, sApp_ap, sExt_ap, sRaise_ap, gN_ap, gT_ap, gsC_ap, gs0_ap, sq_rt, sq_ex, sq_bk, sq_ct, lp_rt, lp_ex, lp_bk, lp_ct, lp_nx, kS_rt, kS_ex, kS_nx, List.getElem?_cons_zero, List.getElem?_cons_succ, List.set_cons_zero, List.set_cons_succ, Option.bind_some, dLen_lst, dLen_tup, dLen_dct, dLen_str, dAdd_ii, dAdd_ss, dAdd_ll, dAdd_tt, dSub_ii, dMul_ii, dMul_li, dFdiv_ii, dMod_ii, dPow_ii, dNeg_i, dCmp_ii, dSum_l, dAll_l, dAny_l, dAbs_i, dInt_i, dInt_b, dList_l, dList_t, dTuple_l, dTuple_t, dMax2_ii, dMin2_ii, dAddI_ii, dRev_l, dIx_l, dIx_t, dIx_d, orFail_some, orFail_none, tru_non, ty_non, tru_bl, ty_bl, tru_int, ty_int, tru_str, ty_str, tru_lst, ty_lst, tru_tup, ty_tup, tru_dct, ty_dct, its_lst, items_lst, its_tup, items_tup, isL_l, dIsN, dNotN, if_true, if_false, Bool.not_true, Bool.not_false, true_and, and_true, wipeE, isTy_NoneType_bool, isTy_NoneType_int, isTy_NoneType_str, isTy_NoneType_list, isTy_NoneType_tuple, isTy_NoneType_dict, isTy_bool_bool, isTy_bool_int, isTy_bool_str, isTy_bool_list, isTy_bool_tuple, isTy_bool_dict, isTy_int_bool, isTy_int_int, isTy_int_str, isTy_int_list, isTy_int_tuple, isTy_int_dict, isTy_str_bool, isTy_str_int, isTy_str_str, isTy_str_list, isTy_str_tuple, isTy_str_dict, isTy_list_bool, isTy_list_int, isTy_list_str, isTy_list_list, isTy_list_tuple, isTy_list_dict, isTy_tuple_bool, isTy_tuple_int, isTy_tuple_str, isTy_tuple_list, isTy_tuple_tuple, isTy_tuple_dict, isTy_dict_bool, isTy_dict_int, isTy_dict_str, isTy_dict_list, isTy_dict_tuple, isTy_dict_dict, sMulti_ap, giveE, eSl_ap, pN_ap, pS_ap, dSl_l, dSl_t, isN_non, isN_bl, isN_int, isN_str, isN_lst, isN_tup, isN_dct, isN_fn, isN_row, Bool.or_true, Bool.or_false, Bool.true_or, Bool.false_or, reduceCtorEq, eq_self, ↓reduceIte, taken_ap]
  refine ⟨by omega, fun x h2 h3 => ?_⟩
  refine ⟨⟨small62_of (by omega) (by omega), small_leni (by omega)⟩, ?_⟩
  refine compM_any (fun x => ∃ a : Int, x = .int a ∧ 0 ≤ a ∧ a < 300) (fun d hd => ?_) fun xs hxl hx => ?_
  · refine ⟨_, rfl, fun R E hR => ?_⟩
    simp only [ret_ap, bnd_ap, ask_ap, fail_ap, noE_ap, eName_ap, eOwn_ap, eC_ap, e1_ap, e2_ap, e2g_ap, e3_ap, tst_ap, bAnd_ap, bOr_ap, bNot_ap, bYes_ap, vAnd_ap, vOr_ap, vNot_ap, tru_ap, eIf_ap, aNil_ap, aCons_ap, aStar_ap, eTup_ap, eLst_ap, eTupS_ap, eLstS_ap, eCall_ap, eRef_ap, eIsi_ap, eIsi2_ap, iSeq_ap, iEn_ap, iR1_ap, iR2_ap, iR3_ap, eLc_ap, sNil_ap, sSeq_ap, sFrz_ap, sExpr_ap, sRet_ap, sAsg_ap, sOwn_ap, sIf_ap, sFor_ap, sAug_ap, sApp_ap, sExt_ap, sRaise_ap, gN_ap, gT_ap, gsC_ap, gs0_ap, sq_rt, sq_ex, sq_bk, sq_ct, lp_rt, lp_ex, lp_bk, lp_ct, lp_nx, kS_rt, kS_ex, kS_nx, List.getElem?_cons_zero, List.getElem?_cons_succ, List.set_cons_zero, List.set_cons_succ, Option.bind_some, dLen_lst, dLen_tup, dLen_dct, dLen_str, dAdd_ii, dAdd_ss, dAdd_ll, dAdd_tt, dSub_ii, dMul_ii, dMul_li, dFdiv_ii, dMod_ii, dPow_ii, dNeg_i, dCmp_ii, dSum_l, dAll_l, dAny_l, dAbs_i, dInt_i, dInt_b, dList_l, dList_t, dTuple_l, dTuple_t, dMax2_ii, dMin2_ii, dAddI_ii, dRev_l, dIx_l, dIx_t, dIx_d, orFail_some, orFail_none, tru_non, ty_non, tru_bl, ty_bl, tru_int, ty_int, tru_str, ty_str, tru_lst, ty_lst, tru_tup, ty_tup, tru_dct, ty_dct, its_lst, items_lst, its_tup, items_tup, isL_l, dIsN, dNotN, if_true, if_false, Bool.not_true, Bool.not_false, true_and, and_true, wipeE, isTy_NoneType_bool, isTy_NoneType_int, isTy_NoneType_str, isTy_NoneType_list, isTy_NoneType_tuple, isTy_NoneType_dict, isTy_bool_bool, isTy_bool_int, isTy_bool_str, isTy_bool_list, isTy_bool_tuple, isTy_bool_dict, isTy_int_bool, isTy_int_int, isTy_int_str, isTy_int_list, isTy_int_tuple, isTy_int_dict, isTy_str_bool, isTy_str_int, isTy_str_str, isTy_str_list, isTy_str_tuple, isTy_str_dict, isTy_list_bool, isTy_list_int, isTy_list_str, isTy_list_list, isTy_list_tuple, isTy_list_dict, isTy_tuple_bool, isTy_tuple_int, isTy_tuple_str, isTy_tuple_list, isTy_tuple_tuple, isTy_tuple_dict, isTy_dict_bool, isTy_dict_int, isTy_dict_str, isTy_dict_list, isTy_dict_tuple, isTy_dict_dict, sMulti_ap, giveE, eSl_ap, pN_ap, pS_ap, dSl_l, dSl_t, isN_non, isN_bl, isN_int, isN_str, isN_lst, isN_tup, isN_dct, isN_fn, isN_row, Bool.or_true, Bool.or_false, Bool.true_or, Bool.false_or, reduceCtorEq, eq_self, ↓reduceIte, taken_ap]
    exact ⟨by omega, fun a q1 q2 => hR _ ⟨a, rfl, q1, by omega⟩⟩
  · obtain ⟨r, rfl, hr⟩ := Y.ints_of hx
    rw [rangeD_length, List.length_map] at hxl
    refine ⟨Y.sortOk_ints r, ?_⟩
    rw [sort_asc]
    simp only [ret_ap, bnd_ap, ask_ap, fail_ap, noE_ap, eName_ap, eOwn_ap, eC_ap, e1_ap, e2_ap, e2g_ap, e3_ap, tst_ap, bAnd_ap, bOr_ap, bNot_ap, bYes_ap, vAnd_ap, vOr_ap, vNot_ap, tru_ap, eIf_ap, aNil_ap, aCons_ap, aStar_ap, eTup_ap, eLst_ap, eTupS_ap, eLstS_ap, eCall_ap, eRef_ap, eIsi_ap, eIsi2_ap, iSeq_ap, iEn_ap, iR1_ap, iR2_ap, iR3_ap, eLc_ap, sNil_ap, sSeq_ap, sFrz_ap, sExpr_ap, sRet_ap, sAsg_ap, sOwn_ap, sIf_ap, sFor_ap, sAug_ap, sApp_ap, sExt_ap, sRaise_ap, gN_ap, gT_ap, gsC_ap, gs0_ap, sq_rt, sq_ex, sq_bk, sq_ct, lp_rt, lp_ex, lp_bk, lp_ct, lp_nx, kS_rt, kS_ex, kS_nx, List.getElem?_cons_zero, List.getElem?_cons_succ, List.set_cons_zero, List.set_cons_succ, Option.bind_some, dLen_lst, dLen_tup, dLen_dct, dLen_str, dAdd_ii, dAdd_ss, dAdd_ll, dAdd_tt, dSub_ii, dMul_ii, dMul_li, dFdiv_ii, dMod_ii, dPow_ii, dNeg_i, dCmp_ii, dSum_l, dAll_l, dAny_l, dAbs_i, dInt_i, dInt_b, dList_l, dList_t, dTuple_l, dTuple_t, dMax2_ii, dMin2_ii, dAddI_ii, dRev_l, dIx_l, dIx_t, dIx_d, orFail_some, orFail_none, tru_non, ty_non, tru_bl, ty_bl, tru_int, ty_int, tru_str, ty_str, tru_lst, ty_lst, tru_tup, ty_tup, tru_dct, ty_dct, its_lst, items_lst, its_tup, items_tup, isL_l, dIsN, dNotN, if_true, if_false, Bool.not_true, Bool.not_false, true_and, and_true, wipeE, isTy_NoneType_bool, isTy_NoneType_int, isTy_NoneType_str, isTy_NoneType_list, isTy_NoneType_tuple, isTy_NoneType_dict, isTy_bool_bool, isTy_bool_int, isTy_bool_str, isTy_bool_list, isTy_bool_tuple, isTy_bool_dict, isTy_int_bool, isTy_int_int, isTy_int_str, isTy_int_list, isTy_int_tuple, isTy_int_dict, isTy_str_bool, isTy_str_int, isTy_str_str, isTy_str_list, isTy_str_tuple, isTy_str_dict, isTy_list_bool, isTy_list_int, isTy_list_str, isTy_list_list, isTy_list_tuple, isTy_list_dict, isTy_tuple_bool, isTy_tuple_int, isTy_tuple_str, isTy_tuple_list, isTy_tuple_tuple, isTy_tuple_dict, isTy_dict_bool, isTy_dict_int, isTy_dict_str, isTy_dict_list, isTy_dict_tuple, isTy_dict_dict, sMulti_ap, giveE, eSl_ap, pN_ap, pS_ap, dSl_l, dSl_t, isN_non, isN_bl, isN_int, isN_str, isN_lst, isN_tup, isN_dct, isN_fn, isN_row, Bool.or_true, Bool.or_false, Bool.true_or, Bool.false_or, reduceCtorEq, eq_self, ↓reduceIte, sq_nx]
    refine h (ascI r) ⟨?_, fun d hd => hr d ((ascI_perm r).mem_iff.mp hd), ascI_sorted r⟩
    rw [(ascI_perm r).length_eq]
    omega
theorem law2 (h : ∀ (t : Int) (p : Nat), 1 ≤ t → t ≤ 12 → p ≤ 3 → rest [.no, .v .row, a2, a3, .v (intsD ds), .v (.int t), .v (.int (p + 1 : Nat)), .no, .no, .no, .no, .no, .no, .no, .no, .no, .no, .no, .no, .no, .no] [] KL) : sSeq (sMulti [5, 6] [false, false] (aCons (e2 dAdd (eC (.int 1)) (eCall sTaken (aCons (eName 1) (aCons (eC (.int 12)) aNil)))) (aCons (e2 dAdd (eC (.int 1)) (eCall sTaken (aCons (eName 1) (aCons (eC (.int 4)) aNil)))) aNil))) rest [.no, .v .row, a2, a3, .v (intsD ds), .no, .no, .no, .no, .no, .no, .no, .no, .no, .no, .no, .no, .no, .no, .no, .no] [] KL := by
  simp only [ret_ap, bnd_ap, ask_ap, fail_ap, noE_ap, eName_ap, eOwn_ap, eC_ap, e1_ap, e2_ap, e2g_ap, e3_ap, tst_ap, bAnd_ap, bOr_ap, bNot_ap, bYes_ap, vAnd_ap, vOr_ap, vNot_ap, tru_ap, eIf_ap, aNil_ap, aCons_ap, aStar_ap, eTup_ap, eLst_ap, eTupS_ap, eLstS_ap, eCall_ap, eRef_ap, eIsi_ap, eIsi2_ap, iSeq_ap, iEn_ap, iR1_ap, iR2_ap, iR3_ap, eLc_ap, sNil_ap, sSeq_ap, sFrz_ap, sExpr_ap, sRet_ap, sAsg_ap, sOwn_ap, sIf_ap, sFor_ap, sAug_ap, sApp_ap, sExt_ap, sRaise_ap, gN_ap, gT_ap, gsC_ap, gs0_ap, sq_rt, sq_ex, sq_bk, sq_ct, lp_rt, lp_ex, lp_bk, lp_ct, lp_nx, kS_rt, kS_ex, kS_nx, List.getElem?_cons_zero, List.getElem?_cons_succ, List.set_cons_zero, List.set_cons_succ, Option.bind_some, dLen_lst, dLen_tup, dLen_dct, dLen_str, dAdd_ii, dAdd_ss, dAdd_ll, dAdd_tt, dSub_ii, dMul_ii, dMul_li, dFdiv_ii, dMod_ii, dPow_ii, dNeg_i, dCmp_ii, dSum_l, dAll_l, dAny_l, dAbs_i, dInt_i, dInt_b, dList_l, dList_t, dTuple_l, dTuple_t, dMax2_ii, dMin2_ii, dAddI_ii, dRev_l, dIx_l, dIx_t, dIx_d, orFail_some, orFail_none, tru_non, ty_non, tru_bl, ty_bl, tru_int, ty_int, tru_str, ty_str, tru_lst, ty_lst, tru_tup, ty_tup, tru_dct, ty_dct, its_lst, items_lst, its_tup, items_tup, isL_l, dIsN, dNotN, if_true, if_false, Bool.not_true, Bool.not_false, true_and, and_true, wipeE, isTy_NoneType_bool, isTy_NoneType_int, isTy_NoneType_str, isTy_NoneType_list, isTy_NoneType_tuple, isTy_NoneType_dict, isTy_bool_bool, isTy_bool_int, isTy_bool_str, isTy_bool_list, isTy_bool_tuple, isTy_bool_dict, isTy_int_bool, isTy_int_int, isTy_int_str, isTy_int_list, isTy_int_tuple, isTy_int_dict, isTy_str_bool, isTy_str_int, isTy_str_str, isTy_str_list, isTy_str_tuple, isTy_str_dict, isTy_list_bool, isTy_list_int, isTy_list_str, isTy_list_list, isTy_list_tuple, isTy_list_dict, isTy_tuple_bool, isTy_tuple_int, isTy_tuple_str, isTy_tuple_list, isTy_tuple_tuple, isTy_tuple_dict, isTy_dict_bool, isTy_dict_int, isTy_dict_str, isTy_dict_list, isTy_dict_tuple, isTy_dict_dict, sMulti_ap, giveE, eSl_ap, pN_ap, pS_ap, dSl_l, dSl_t, isN_non, isN_bl, isN_int, isN_str, isN_lst, isN_tup, isN_dct, isN_fn, isN_row, Bool.or_true, Bool.or_false, Bool.true_or, Bool.false_or, reduceCtorEq, eq_self, ↓reduceIte, taken_ap]
  refine ⟨by decide, fun x h0 h1 => ⟨by decide, fun y h2 h3 => ?_⟩⟩
  have := h (1 + x) y.toNat (by omega) (by omega) (by omega)
  rw [show ((y.toNat + 1 : Nat) : Int) = 1 + y by omega] at this
  simp only [ret_ap, bnd_ap, ask_ap, fail_ap, noE_ap, eName_ap, eOwn_ap, eC_ap, e1_ap, e2_ap, e2g_ap, e3_ap, tst_ap, bAnd_ap, bOr_ap, bNot_ap, bYes_ap, vAnd_ap, vOr_ap, vNot_ap, tru_ap, eIf_ap, aNil_ap, aCons_ap, aStar_ap, eTup_ap, eLst_ap, eTupS_ap, eLstS_ap, eCall_ap, eRef_ap, eIsi_ap, eIsi2_ap, iSeq_ap, iEn_ap, iR1_ap, iR2_ap, iR3_ap, eLc_ap, sNil_ap, sSeq_ap, sFrz_ap, sExpr_ap, sRet_ap, sAsg_ap, sOwn_ap, sIf_ap, sFor_ap, sAug_ap, sApp_ap, sExt_ap, sRaise_ap, gN_ap, gT_ap, gsC_ap, gs0_ap, sq_rt, sq_ex, sq_bk, sq_ct, lp_rt, lp_ex, lp_bk, lp_ct, lp_nx, kS_rt, kS_ex, kS_nx, List.getElem?_cons_zero, List.getElem?_cons_succ, List.set_cons_zero, List.set_cons_succ, Option.bind_some, dLen_lst, dLen_tup, dLen_dct, dLen_str, dAdd_ii, dAdd_ss, dAdd_ll, dAdd_tt, dSub_ii, dMul_ii, dMul_li, dFdiv_ii, dMod_ii, dPow_ii, dNeg_i, dCmp_ii, dSum_l, dAll_l, dAny_l, dAbs_i, dInt_i, dInt_b, dList_l, dList_t, dTuple_l, dTuple_t, dMax2_ii, dMin2_ii, dAddI_ii, dRev_l, dIx_l, dIx_t, dIx_d, orFail_some, orFail_none, tru_non, ty_non, tru_bl, ty_bl, tru_int, ty_int, tru_str, ty_str, tru_lst, ty_lst, tru_tup, ty_tup, tru_dct, ty_dct, its_lst, items_lst, its_tup, items_tup, isL_l, dIsN, dNotN, if_true, if_false, Bool.not_true, Bool.not_false, true_and, and_true, wipeE, isTy_NoneType_bool, isTy_NoneType_int, isTy_NoneType_str, isTy_NoneType_list, isTy_NoneType_tuple, isTy_NoneType_dict, isTy_bool_bool, isTy_bool_int, isTy_bool_str, isTy_bool_list, isTy_bool_tuple, isTy_bool_dict, isTy_int_bool, isTy_int_int, isTy_int_str, isTy_int_list, isTy_int_tuple, isTy_int_dict, isTy_str_bool, isTy_str_int, isTy_str_str, isTy_str_list, isTy_str_tuple, isTy_str_dict, isTy_list_bool, isTy_list_int, isTy_list_str, isTy_list_list, isTy_list_tuple, isTy_list_dict, isTy_tuple_bool, isTy_tuple_int, isTy_tuple_str, isTy_tuple_list, isTy_tuple_tuple, isTy_tuple_dict, isTy_dict_bool, isTy_dict_int, isTy_dict_str, isTy_dict_list, isTy_dict_tuple, isTy_dict_dict, sMulti_ap, giveE, eSl_ap, pN_ap, pS_ap, dSl_l, dSl_t, isN_non, isN_bl, isN_int, isN_str, isN_lst, isN_tup, isN_dct, isN_fn, isN_row, Bool.or_true, Bool.or_false, Bool.true_or, Bool.false_or, reduceCtorEq, eq_self, ↓reduceIte, sq_nx]
  exact this
abbrev eA (ds : List Int) (t : Int) (p : Nat) (a2 a3 b9 b10 b11 b12 b13 b14 b15 b16 b17 b18 : Sl) : Y.Env := [.no, .v .row, a2, a3, .v (intsD ds), .v (.int t), .v (.int (p + 1 : Nat)), .v (intsD (plainB ds t)), .v (intsD (backsI ds t p)), b9, b10, b11, b12, b13, b14, b15, b16, b17, b18, .no, .no]
theorem law3 (F : Days ds) (h1 : 1 ≤ t) (h2 : t ≤ 12) (hp : p ≤ 3) (h : rest (eA ds t p a2 a3 .no .no .no .no .no .no .no .no .no .no) [] KL) : sSeq (sMulti [7, 8] [false, false] (aCons (eLc [14] (gN 14) bYes (e2 dAdd (eName 14) (eName 5)) (iSeq (eName 4))) (aCons (eCall c_law_shop (aCons (eName 4) (aCons (eName 5) (aCons (eName 6) aNil)))) aNil))) rest [.no, .v .row, a2, a3, .v (intsD ds), .v (.int t), .v (.int (p + 1 : Nat)), .no, .no, .no, .no, .no, .no, .no, .no, .no, .no, .no, .no, .no, .no] [] KL := by
  simp only [ret_ap, bnd_ap, ask_ap, fail_ap, noE_ap, eName_ap, eOwn_ap, eC_ap, e1_ap, e2_ap, e2g_ap, e3_ap, tst_ap, bAnd_ap, bOr_ap, bNot_ap, bYes_ap, vAnd_ap, vOr_ap, vNot_ap, tru_ap, eIf_ap, aNil_ap, aCons_ap, aStar_ap, eTup_ap, eLst_ap, eTupS_ap, eLstS_ap, eCall_ap, eRef_ap, eIsi_ap, eIsi2_ap, iSeq_ap, iEn_ap, iR1_ap, iR2_ap, iR3_ap, eLc_ap, sNil_ap, sSeq_ap, sFrz_ap, sExpr_ap, sRet_ap, sAsg_ap, sOwn_ap, sIf_ap, sFor_ap, sAug_ap, sApp_ap, sExt_ap, sRaise_ap, gN_ap, gT_ap, gsC_ap, gs0_ap, sq_rt, sq_ex, sq_bk, sq_ct, lp_rt, lp_ex, lp_bk, lp_ct, lp_nx, kS_rt, kS_ex, kS_nx, List.getElem?_cons_zero, List.getElem?_cons_succ, List.set_cons_zero, List.set_cons_succ, Option.bind_some, dLen_lst, dLen_tup, dLen_dct, dLen_str, dAdd_ii, dAdd_ss, dAdd_ll, dAdd_tt, dSub_ii, dMul_ii, dMul_li, dFdiv_ii, dMod_ii, dPow_ii, dNeg_i, dCmp_ii, dSum_l, dAll_l, dAny_l, dAbs_i, dInt_i, dInt_b, dList_l, dList_t, dTuple_l, dTuple_t, dMax2_ii, dMin2_ii, dAddI_ii, dRev_l, dIx_l, dIx_t, dIx_d, orFail_some, orFail_none, tru_non, ty_non, tru_bl, ty_bl, tru_int, ty_int, tru_str, ty_str, tru_lst, ty_lst, tru_tup, ty_tup, tru_dct, ty_dct, its_lst, items_lst, its_tup, items_tup, isL_l, dIsN, dNotN, if_true, if_false, Bool.not_true, Bool.not_false, true_and, and_true, wipeE, isTy_NoneType_bool, isTy_NoneType_int, isTy_NoneType_str, isTy_NoneType_list, isTy_NoneType_tuple, isTy_NoneType_dict, isTy_bool_bool, isTy_bool_int, isTy_bool_str, isTy_bool_list, isTy_bool_tuple, isTy_bool_dict, isTy_int_bool, isTy_int_int, isTy_int_str, isTy_int_list, isTy_int_tuple, isTy_int_dict, isTy_str_bool, isTy_str_int, isTy_str_str, isTy_str_list, isTy_str_tuple, isTy_str_dict, isTy_list_bool, isTy_list_int, isTy_list_str, isTy_list_list, isTy_list_tuple, isTy_list_dict, isTy_tuple_bool, isTy_tuple_int, isTy_tuple_str, isTy_tuple_list, isTy_tuple_tuple, isTy_tuple_dict, isTy_dict_bool, isTy_dict_int, isTy_dict_str, isTy_dict_list, isTy_dict_tuple, isTy_dict_dict, sMulti_ap, giveE, eSl_ap, pN_ap, pS_ap, dSl_l, dSl_t, isN_non, isN_bl, isN_int, isN_str, isN_lst, isN_tup, isN_dct, isN_fn, isN_row, Bool.or_true, Bool.or_false, Bool.true_or, Bool.false_or, reduceCtorEq, eq_self, ↓reduceIte]
  refine compM_map1 (g := fun d => match d with | .int a => .int (a + t) | d => d) (fun d hd => ?_) ?_
  · obtain ⟨a, _, rfl⟩ := List.mem_map.mp hd
    refine ⟨_, rfl, fun W R E h => ?_⟩
    simp only [ret_ap, bnd_ap, ask_ap, fail_ap, noE_ap, eName_ap, eOwn_ap, eC_ap, e1_ap, e2_ap, e2g_ap, e3_ap, tst_ap, bAnd_ap, bOr_ap, bNot_ap, bYes_ap, vAnd_ap, vOr_ap, vNot_ap, tru_ap, eIf_ap, aNil_ap, aCons_ap, aStar_ap, eTup_ap, eLst_ap, eTupS_ap, eLstS_ap, eCall_ap, eRef_ap, eIsi_ap, eIsi2_ap, iSeq_ap, iEn_ap, iR1_ap, iR2_ap, iR3_ap, eLc_ap, sNil_ap, sSeq_ap, sFrz_ap, sExpr_ap, sRet_ap, sAsg_ap, sOwn_ap, sIf_ap, sFor_ap, sAug_ap, sApp_ap, sExt_ap, sRaise_ap, gN_ap, gT_ap, gsC_ap, gs0_ap, sq_rt, sq_ex, sq_bk, sq_ct, lp_rt, lp_ex, lp_bk, lp_ct, lp_nx, kS_rt, kS_ex, kS_nx, List.getElem?_cons_zero, List.getElem?_cons_succ, List.set_cons_zero, List.set_cons_succ, Option.bind_some, dLen_lst, dLen_tup, dLen_dct, dLen_str, dAdd_ii, dAdd_ss, dAdd_ll, dAdd_tt, dSub_ii, dMul_ii, dMul_li, dFdiv_ii, dMod_ii, dPow_ii, dNeg_i, dCmp_ii, dSum_l, dAll_l, dAny_l, dAbs_i, dInt_i, dInt_b, dList_l, dList_t, dTuple_l, dTuple_t, dMax2_ii, dMin2_ii, dAddI_ii, dRev_l, dIx_l, dIx_t, dIx_d, orFail_some, orFail_none, tru_non, ty_non, tru_bl, ty_bl, tru_int, ty_int, tru_str, ty_str, tru_lst, ty_lst, tru_tup, ty_tup, tru_dct, ty_dct, its_lst, items_lst, its_tup, items_tup, isL_l, dIsN, dNotN, if_true, if_false, Bool.not_true, Bool.not_false, true_and, and_true, wipeE, isTy_NoneType_bool, isTy_NoneType_int, isTy_NoneType_str, isTy_NoneType_list, isTy_NoneType_tuple, isTy_NoneType_dict, isTy_bool_bool, isTy_bool_int, isTy_bool_str, isTy_bool_list, isTy_bool_tuple, isTy_bool_dict, isTy_int_bool, isTy_int_int, isTy_int_str, isTy_int_list, isTy_int_tuple, isTy_int_dict, isTy_str_bool, isTy_str_int, isTy_str_str, isTy_str_list, isTy_str_tuple, isTy_str_dict, isTy_list_bool, isTy_list_int, isTy_list_str, isTy_list_list, isTy_list_tuple, isTy_list_dict, isTy_tuple_bool, isTy_tuple_int, isTy_tuple_str, isTy_tuple_list, isTy_tuple_tuple, isTy_tuple_dict, isTy_dict_bool, isTy_dict_int, isTy_dict_str, isTy_dict_list, isTy_dict_tuple, isTy_dict_dict, sMulti_ap, giveE, eSl_ap, pN_ap, pS_ap, dSl_l, dSl_t, isN_non, isN_bl, isN_int, isN_str, isN_lst, isN_tup, isN_dct, isN_fn, isN_row, Bool.or_true, Bool.or_false, Bool.true_or, Bool.false_or, reduceCtorEq, eq_self, ↓reduceIte]
    exact h
  · refine law_shop_ap F h1 h2 hp ?_
    simp only [ret_ap, bnd_ap, ask_ap, fail_ap, noE_ap, eName_ap, eOwn_ap, eC_ap, e1_ap, e2_ap, e2g_ap, e3_ap, tst_ap, bAnd_ap, bOr_ap, bNot_ap, bYes_ap, vAnd_ap, vOr_ap, vNot_ap, tru_ap, eIf_ap, aNil_ap, aCons_ap, aStar_ap, eTup_ap, eLst_ap, eTupS_ap, eLstS_ap, eCall_ap, eRef_ap, eIsi_ap, eIsi2_ap, iSeq_ap, iEn_ap, iR1_ap, iR2_ap, iR3_ap, eLc_ap, sNil_ap, sSeq_ap, sFrz_ap, sExpr_ap, sRet_ap, sAsg_ap, sOwn_ap, sIf_ap, sFor_ap, sAug_ap, sApp_ap, sExt_ap, sRaise_ap, gN_ap, gT_ap, gsC_ap, gs0_ap, sq_rt, sq_ex, sq_bk, sq_ct, lp_rt, lp_ex, lp_bk, lp_ct, lp_nx, kS_rt, kS_ex, kS_nx, List.getElem?_cons_zero, List.getElem?_cons_succ, List.set_cons_zero, List.set_cons_succ, Option.bind_some, dLen_lst, dLen_tup, dLen_dct, dLen_str, dAdd_ii, dAdd_ss, dAdd_ll, dAdd_tt, dSub_ii, dMul_ii, dMul_li, dFdiv_ii, dMod_ii, dPow_ii, dNeg_i, dCmp_ii, dSum_l, dAll_l, dAny_l, dAbs_i, dInt_i, dInt_b, dList_l, dList_t, dTuple_l, dTuple_t, dMax2_ii, dMin2_ii, dAddI_ii, dRev_l, dIx_l, dIx_t, dIx_d, orFail_some, orFail_none, tru_non, ty_non, tru_bl, ty_bl, tru_int, ty_int, tru_str, ty_str, tru_lst, ty_lst, tru_tup, ty_tup, tru_dct, ty_dct, its_lst, items_lst, its_tup, items_tup, isL_l, dIsN, dNotN, if_true, if_false, Bool.not_true, Bool.not_false, true_and, and_true, wipeE, isTy_NoneType_bool, isTy_NoneType_int, isTy_NoneType_str, isTy_NoneType_list, isTy_NoneType_tuple, isTy_NoneType_dict, isTy_bool_bool, isTy_bool_int, isTy_bool_str, isTy_bool_list, isTy_bool_tuple, isTy_bool_dict, isTy_int_bool, isTy_int_int, isTy_int_str, isTy_int_list, isTy_int_tuple, isTy_int_dict, isTy_str_bool, isTy_str_int, isTy_str_str, isTy_str_list, isTy_str_tuple, isTy_str_dict, isTy_list_bool, isTy_list_int, isTy_list_str, isTy_list_list, isTy_list_tuple, isTy_list_dict, isTy_tuple_bool, isTy_tuple_int, isTy_tuple_str, isTy_tuple_list, isTy_tuple_tuple, isTy_tuple_dict, isTy_dict_bool, isTy_dict_int, isTy_dict_str, isTy_dict_list, isTy_dict_tuple, isTy_dict_dict, sMulti_ap, giveE, eSl_ap, pN_ap, pS_ap, dSl_l, dSl_t, isN_non, isN_bl, isN_int, isN_str, isN_lst, isN_tup, isN_dct, isN_fn, isN_row, Bool.or_true, Bool.or_false, Bool.true_or, Bool.false_or, reduceCtorEq, eq_self, ↓reduceIte, sq_nx]
    have e : (ds.map D.int).map (fun d => match d with | .int a => D.int (a + t) | d => d) = (plainB ds t).map .int := by
      unfold plainB
      rw [List.map_map, List.map_map]
      rfl
    rw [e]
    exact h
theorem law4 (F : Days ds) (h1 : 1 ≤ t) (h2 : t ≤ 12) (hp : p ≤ 3) {b9 b10 b11 b12 b13 b14 b15 b16 b17 b18 : Sl} (h : rest (eA ds t p a2 a3 b9 b10 b11 b12 b13 b14 b15 b16 b17 b18) [] KL) : sSeq (sIf (bNot (tru (eCall (c_law_alike 8) (aCons (eCall c_with_shop (aCons (e1 dTuple (eName 4)) (aCons (eName 5) (aCons (eName 6) aNil)))) (aCons (eName 8) aNil))))) (sRet (eC (.bl false))) sNil) rest (eA ds t p a2 a3 b9 b10 b11 b12 b13 b14 b15 b16 b17 b18) [] KL := by
  have f60 := F.len
  simp only [ret_ap, bnd_ap, ask_ap, fail_ap, noE_ap, eName_ap, eOwn_ap, eC_ap, e1_ap, e2_ap, e2g_ap, e3_ap, tst_ap, bAnd_ap, bOr_ap, bNot_ap, bYes_ap, vAnd_ap, vOr_ap, vNot_ap, tru_ap, eIf_ap, aNil_ap, aCons_ap, aStar_ap, eTup_ap, eLst_ap, eTupS_ap, eLstS_ap, eCall_ap, eRef_ap, eIsi_ap, eIsi2_ap, iSeq_ap, iEn_ap, iR1_ap, iR2_ap, iR3_ap, eLc_ap, sNil_ap, sSeq_ap, sFrz_ap, sExpr_ap, sRet_ap, sAsg_ap, sOwn_ap, sIf_ap, sFor_ap, sAug_ap, sApp_ap, sExt_ap, sRaise_ap, gN_ap, gT_ap, gsC_ap, gs0_ap, sq_rt, sq_ex, sq_bk, sq_ct, lp_rt, lp_ex, lp_bk, lp_ct, lp_nx, kS_rt, kS_ex, kS_nx, List.getElem?_cons_zero, List.getElem?_cons_succ, List.set_cons_zero, List.set_cons_succ, Option.bind_some, dLen_lst, dLen_tup, dLen_dct, dLen_str, dAdd_ii, dAdd_ss, dAdd_ll, dAdd_tt, dSub_ii, dMul_ii, dMul_li, dFdiv_ii, dMod_ii, dPow_ii, dNeg_i, dCmp_ii, dSum_l, dAll_l, dAny_l, dAbs_i, dInt_i, dInt_b, dList_l, dList_t, dTuple_l, dTuple_t, dMax2_ii, dMin2_ii, dAddI_ii, dRev_l, dIx_l, dIx_t, dIx_d, orFail_some, orFail_none, tru_non, ty_non, tru_bl, ty_bl, tru_int, ty_int, tru_str, ty_str, tru_lst, ty_lst, tru_tup, ty_tup, tru_dct, ty_dct, its_lst, items_lst, its_tup, items_tup, isL_l, dIsN, dNotN, if_true, if_false, Bool.not_true, Bool.not_false, true_and, and_true, wipeE, isTy_NoneType_bool, isTy_NoneType_int, isTy_NoneType_str, isTy_NoneType_list, isTy_NoneType_tuple, isTy_NoneType_dict, isTy_bool_bool, isTy_bool_int, isTy_bool_str, isTy_bool_list, isTy_bool_tuple, isTy_bool_dict, isTy_int_bool, isTy_int_int, isTy_int_str, isTy_int_list, isTy_int_tuple, isTy_int_dict, isTy_str_bool, isTy_str_int, isTy_str_str, isTy_str_list, isTy_str_tuple, isTy_str_dict, isTy_list_bool, isTy_list_int, isTy_list_str, isTy_list_list, isTy_list_tuple, isTy_list_dict, isTy_tuple_bool, isTy_tuple_int, isTy_tuple_str, isTy_tuple_list, isTy_tuple_tuple, isTy_tuple_dict, isTy_dict_bool, isTy_dict_int, isTy_dict_str, isTy_dict_list, isTy_dict_tuple, isTy_dict_dict, sMulti_ap, giveE, eSl_ap, pN_ap, pS_ap, dSl_l, dSl_t, isN_non, isN_bl, isN_int, isN_str, isN_lst, isN_tup, isN_dct, isN_fn, isN_row, Bool.or_true, Bool.or_false, Bool.true_or, Bool.false_or, reduceCtorEq, eq_self, ↓reduceIte]
  refine with_shop_ap F (.inr rfl) h1 (by omega) (by omega) ?_
  refine alike_self 7 _ (nar_ints 6 _ (by rw [backs_length]; omega)) ?_
  simp only [ret_ap, bnd_ap, ask_ap, fail_ap, noE_ap, eName_ap, eOwn_ap, eC_ap, e1_ap, e2_ap, e2g_ap, e3_ap, tst_ap, bAnd_ap, bOr_ap, bNot_ap, bYes_ap, vAnd_ap, vOr_ap, vNot_ap, tru_ap, eIf_ap, aNil_ap, aCons_ap, aStar_ap, eTup_ap, eLst_ap, eTupS_ap, eLstS_ap, eCall_ap, eRef_ap, eIsi_ap, eIsi2_ap, iSeq_ap, iEn_ap, iR1_ap, iR2_ap, iR3_ap, eLc_ap, sNil_ap, sSeq_ap, sFrz_ap, sExpr_ap, sRet_ap, sAsg_ap, sOwn_ap, sIf_ap, sFor_ap, sAug_ap, sApp_ap, sExt_ap, sRaise_ap, gN_ap, gT_ap, gsC_ap, gs0_ap, sq_rt, sq_ex, sq_bk, sq_ct, lp_rt, lp_ex, lp_bk, lp_ct, lp_nx, kS_rt, kS_ex, kS_nx, List.getElem?_cons_zero, List.getElem?_cons_succ, List.set_cons_zero, List.set_cons_succ, Option.bind_some, dLen_lst, dLen_tup, dLen_dct, dLen_str, dAdd_ii, dAdd_ss, dAdd_ll, dAdd_tt, dSub_ii, dMul_ii, dMul_li, dFdiv_ii, dMod_ii, dPow_ii, dNeg_i, dCmp_ii, dSum_l, dAll_l, dAny_l, dAbs_i, dInt_i, dInt_b, dList_l, dList_t, dTuple_l, dTuple_t, dMax2_ii, dMin2_ii, dAddI_ii, dRev_l, dIx_l, dIx_t, dIx_d, orFail_some, orFail_none, tru_non, ty_non, tru_bl, ty_bl, tru_int, ty_int, tru_str, ty_str, tru_lst, ty_lst, tru_tup, ty_tup, tru_dct, ty_dct, its_lst, items_lst, its_tup, items_tup, isL_l, dIsN, dNotN, if_true, if_false, Bool.not_true, Bool.not_false, true_and, and_true, wipeE, isTy_NoneType_bool, isTy_NoneType_int, isTy_NoneType_str, isTy_NoneType_list, isTy_NoneType_tuple, isTy_NoneType_dict, isTy_bool_bool, isTy_bool_int, isTy_bool_str, isTy_bool_list, isTy_bool_tuple, isTy_bool_dict, isTy_int_bool, isTy_int_int, isTy_int_str, isTy_int_list, isTy_int_tuple, isTy_int_dict, isTy_str_bool, isTy_str_int, isTy_str_str, isTy_str_list, isTy_str_tuple, isTy_str_dict, isTy_list_bool, isTy_list_int, isTy_list_str, isTy_list_list, isTy_list_tuple, isTy_list_dict, isTy_tuple_bool, isTy_tuple_int, isTy_tuple_str, isTy_tuple_list, isTy_tuple_tuple, isTy_tuple_dict, isTy_dict_bool, isTy_dict_int, isTy_dict_str, isTy_dict_list, isTy_dict_tuple, isTy_dict_dict, sMulti_ap, giveE, eSl_ap, pN_ap, pS_ap, dSl_l, dSl_t, isN_non, isN_bl, isN_int, isN_str, isN_lst, isN_tup, isN_dct, isN_fn, isN_row, Bool.or_true, Bool.or_false, Bool.true_or, Bool.false_or, reduceCtorEq, eq_self, ↓reduceIte, sq_nx]
  exact h
end
end K19

set_option maxRecDepth 100000
set_option maxHeartbeats 1000000
namespace K19
open PySem PySem.Spec PyProof.Rows L2 Y
open PySem.W (AllAlike Sortable dataLe dataLt)
section
variable {rest : SM} {ds : List Int} {t : Int} {p : Nat} {a2 a3 b9 b10 b11 b12 b13 b14 b15 b16 b17 b18 : Sl}
theorem pair_body (F : Days ds) {bs : List Int} (hb : bs.length = ds.length) (hg : ∀ i, i < ds.length → ds.getD i 0 < bs.getD i 0) {K : Ks} (h : K.nx (eA ds t p a2 a3 (.v (intsD bs)) (.v (.int (max0 (awayI ds bs)))) b11 b12 b13 b14 b15 b16 b17 b18) []) :
    (sSeq (sIf (bOr (bNot (tru (eIsi "int" (eName 10)))) (bOr (tst (e2 dNe (eCall c_law_first (aCons (eName 4) (aCons (eName 9) (aCons (eName 10) aNil)))) (e1 dNeg (eC (.int 1))))) (bAnd (tst (e2 dGt (eName 10) (eC (.int 0)))) (tst (e2 dLt (eCall c_law_first (aCons (eName 4) (aCons (eName 9) (aCons (e2 dSub (eName 10) (eC (.int 1))) aNil)))) (eC (.int 0))))))) (sRet (eC (.bl false))) sNil) (sIf (tst (e2 dNe (e2 dEq (eName 10) (eC (.int 0))) (e2 dEq (eName 4) (eLst aNil)))) (sRet (eC (.bl false))) sNil)) (eA ds t p a2 a3 (.v (intsD bs)) (.v (.int (max0 (awayI ds bs)))) b11 b12 b13 b14 b15 b16 b17 b18) [] K := by
  have f60 := F.len
  obtain ⟨z1, z2⟩ := max_zero hb hg
  have z3 := max_bound bs hb F.len
  have tail : (sIf (tst (e2 dNe (e2 dEq (eName 10) (eC (.int 0))) (e2 dEq (eName 4) (eLst aNil)))) (sRet (eC (.bl false))) sNil) (eA ds t p a2 a3 (.v (intsD bs)) (.v (.int (max0 (awayI ds bs)))) b11 b12 b13 b14 b15 b16 b17 b18) [] K := by
    simp only [ret_ap, bnd_ap, ask_ap, fail_ap, noE_ap, eName_ap, eOwn_ap, eC_ap, e1_ap, e2_ap, e2g_ap, e3_ap, tst_ap, bAnd_ap, bOr_ap, bNot_ap, bYes_ap, vAnd_ap, vOr_ap, vNot_ap, tru_ap, eIf_ap, aNil_ap, aCons_ap, aStar_ap, eTup_ap, eLst_ap, eTupS_ap, eLstS_ap, eCall_ap, eRef_ap, eIsi_ap, eIsi2_ap, iSeq_ap, iEn_ap, iR1_ap, iR2_ap, iR3_ap, eLc_ap, sNil_ap, sSeq_ap, sFrz_ap, sExpr_ap, sRet_ap, sAsg_ap, sOwn_ap, sIf_ap, sFor_ap, sAug_ap, sApp_ap, sExt_ap, sRaise_ap, gN_ap, gT_ap, gsC_ap, gs0_ap, sq_rt, sq_ex, sq_bk, sq_ct, lp_rt, lp_ex, lp_bk, lp_ct, lp_nx, kS_rt, kS_ex, kS_nx, List.getElem?_cons_zero, List.getElem?_cons_succ, List.set_cons_zero, List.set_cons_succ, Option.bind_some, dLen_lst, dLen_tup, dLen_dct, dLen_str, dAdd_ii, dAdd_ss, dAdd_ll, dAdd_tt, dSub_ii, dMul_ii, dMul_li, dFdiv_ii, dMod_ii, dPow_ii, dNeg_i, dCmp_ii, dSum_l, dAll_l, dAny_l, dAbs_i, dInt_i, dInt_b, dList_l, dList_t, dTuple_l, dTuple_t, dMax2_ii, dMin2_ii, dAddI_ii, dRev_l, dIx_l, dIx_t, dIx_d, orFail_some, orFail_none, tru_non, ty_non, tru_bl, ty_bl, tru_int, ty_int, tru_str, ty_str, tru_lst, ty_lst, tru_tup, ty_tup, tru_dct, ty_dct, its_lst, items_lst, its_tup, items_tup, isL_l, dIsN, dNotN, if_true, if_false, Bool.not_true, Bool.not_false, true_and, and_true, wipeE, isTy_NoneType_bool, isTy_NoneType_int, isTy_NoneType_str, isTy_NoneType_list, isTy_NoneType_tuple, isTy_NoneType_dict, isTy_bool_bool, isTy_bool_int, isTy_bool_str, isTy_bool_list, isTy_bool_tuple, isTy_bool_dict, isTy_int_bool, isTy_int_int, isTy_int_str, isTy_int_list, isTy_int_tuple, isTy_int_dict, isTy_str_bool, isTy_str_int, isTy_str_str, isTy_str_list, isTy_str_tuple, isTy_str_dict, isTy_list_bool, isTy_list_int, isTy_list_str, isTy_list_list, isTy_list_tuple, isTy_list_dict, isTy_tuple_bool, isTy_tuple_int, isTy_tuple_str, isTy_tuple_list, isTy_tuple_tuple, isTy_tuple_dict, isTy_dict_bool, isTy_dict_int, isTy_dict_str, isTy_dict_list, isTy_dict_tuple, isTy_dict_dict, sMulti_ap, giveE, eSl_ap, pN_ap, pS_ap, dSl_l, dSl_t, isN_non, isN_bl, isN_int, isN_str, isN_lst, isN_tup, isN_dct, isN_fn, isN_row, Bool.or_true, Bool.or_false, Bool.true_or, Bool.false_or, reduceCtorEq, eq_self, ↓reduceIte, dEqB_int', dEqB_lst_nil _ _ (okd_ints ds), dEqB_bl]
    have e : decide (max0 (awayI ds bs) = 0) = (ds.map D.int).isEmpty := by
      rw [List.isEmpty_map]
      cases hd : ds with
      | nil => rw [hd] at z1; exact decide_eq_true (z1.mpr rfl)
      | cons a as => rw [hd] at z1; exact decide_eq_false fun z => by cases z1.mp z
    rw [e]
    simp only [decide_true, Bool.not_true, Bool.false_eq_true, if_false]
    exact h
  simp only [ret_ap, bnd_ap, ask_ap, fail_ap, noE_ap, eName_ap, eOwn_ap, eC_ap, e1_ap, e2_ap, e2g_ap, e3_ap, tst_ap, bAnd_ap, bOr_ap, bNot_ap, bYes_ap, vAnd_ap, vOr_ap, vNot_ap, tru_ap, eIf_ap, aNil_ap, aCons_ap, aStar_ap, eTup_ap, eLst_ap, eTupS_ap, eLstS_ap, eCall_ap, eRef_ap, eIsi_ap, eIsi2_ap, iSeq_ap, iEn_ap, iR1_ap, iR2_ap, iR3_ap, eLc_ap, sNil_ap, sSeq_ap, sFrz_ap, sExpr_ap, sRet_ap, sAsg_ap, sOwn_ap, sIf_ap, sFor_ap, sAug_ap, sApp_ap, sExt_ap, sRaise_ap, gN_ap, gT_ap, gsC_ap, gs0_ap, sq_rt, sq_ex, sq_bk, sq_ct, lp_rt, lp_ex, lp_bk, lp_ct, lp_nx, kS_rt, kS_ex, kS_nx, List.getElem?_cons_zero, List.getElem?_cons_succ, List.set_cons_zero, List.set_cons_succ, Option.bind_some, dLen_lst, dLen_tup, dLen_dct, dLen_str, dAdd_ii, dAdd_ss, dAdd_ll, dAdd_tt, dSub_ii, dMul_ii, dMul_li, dFdiv_ii, dMod_ii, dPow_ii, dNeg_i, dCmp_ii, dSum_l, dAll_l, dAny_l, dAbs_i, dInt_i, dInt_b, dList_l, dList_t, dTuple_l, dTuple_t, dMax2_ii, dMin2_ii, dAddI_ii, dRev_l, dIx_l, dIx_t, dIx_d, orFail_some, orFail_none, tru_non, ty_non, tru_bl, ty_bl, tru_int, ty_int, tru_str, ty_str, tru_lst, ty_lst, tru_tup, ty_tup, tru_dct, ty_dct, its_lst, items_lst, its_tup, items_tup, isL_l, dIsN, dNotN, if_true, if_false, Bool.not_true, Bool.not_false, true_and, and_true, wipeE, isTy_NoneType_bool, isTy_NoneType_int, isTy_NoneType_str, isTy_NoneType_list, isTy_NoneType_tuple, isTy_NoneType_dict, isTy_bool_bool, isTy_bool_int, isTy_bool_str, isTy_bool_list, isTy_bool_tuple, isTy_bool_dict, isTy_int_bool, isTy_int_int, isTy_int_str, isTy_int_list, isTy_int_tuple, isTy_int_dict, isTy_str_bool, isTy_str_int, isTy_str_str, isTy_str_list, isTy_str_tuple, isTy_str_dict, isTy_list_bool, isTy_list_int, isTy_list_str, isTy_list_list, isTy_list_tuple, isTy_list_dict, isTy_tuple_bool, isTy_tuple_int, isTy_tuple_str, isTy_tuple_list, isTy_tuple_tuple, isTy_tuple_dict, isTy_dict_bool, isTy_dict_int, isTy_dict_str, isTy_dict_list, isTy_dict_tuple, isTy_dict_dict, sMulti_ap, giveE, eSl_ap, pN_ap, pS_ap, dSl_l, dSl_t, isN_non, isN_bl, isN_int, isN_str, isN_lst, isN_tup, isN_dct, isN_fn, isN_row, Bool.or_true, Bool.or_false, Bool.true_or, Bool.false_or, reduceCtorEq, eq_self, ↓reduceIte, D.isInt]
  refine law_first_ap F bs hb hg z2 (by omega) ?_
  rw [first_max]
  simp only [ret_ap, bnd_ap, ask_ap, fail_ap, noE_ap, eName_ap, eOwn_ap, eC_ap, e1_ap, e2_ap, e2g_ap, e3_ap, tst_ap, bAnd_ap, bOr_ap, bNot_ap, bYes_ap, vAnd_ap, vOr_ap, vNot_ap, tru_ap, eIf_ap, aNil_ap, aCons_ap, aStar_ap, eTup_ap, eLst_ap, eTupS_ap, eLstS_ap, eCall_ap, eRef_ap, eIsi_ap, eIsi2_ap, iSeq_ap, iEn_ap, iR1_ap, iR2_ap, iR3_ap, eLc_ap, sNil_ap, sSeq_ap, sFrz_ap, sExpr_ap, sRet_ap, sAsg_ap, sOwn_ap, sIf_ap, sFor_ap, sAug_ap, sApp_ap, sExt_ap, sRaise_ap, gN_ap, gT_ap, gsC_ap, gs0_ap, sq_rt, sq_ex, sq_bk, sq_ct, lp_rt, lp_ex, lp_bk, lp_ct, lp_nx, kS_rt, kS_ex, kS_nx, List.getElem?_cons_zero, List.getElem?_cons_succ, List.set_cons_zero, List.set_cons_succ, Option.bind_some, dLen_lst, dLen_tup, dLen_dct, dLen_str, dAdd_ii, dAdd_ss, dAdd_ll, dAdd_tt, dSub_ii, dMul_ii, dMul_li, dFdiv_ii, dMod_ii, dPow_ii, dNeg_i, dCmp_ii, dSum_l, dAll_l, dAny_l, dAbs_i, dInt_i, dInt_b, dList_l, dList_t, dTuple_l, dTuple_t, dMax2_ii, dMin2_ii, dAddI_ii, dRev_l, dIx_l, dIx_t, dIx_d, orFail_some, orFail_none, tru_non, ty_non, tru_bl, ty_bl, tru_int, ty_int, tru_str, ty_str, tru_lst, ty_lst, tru_tup, ty_tup, tru_dct, ty_dct, its_lst, items_lst, its_tup, items_tup, isL_l, dIsN, dNotN, if_true, if_false, Bool.not_true, Bool.not_false, true_and, and_true, wipeE, isTy_NoneType_bool, isTy_NoneType_int, isTy_NoneType_str, isTy_NoneType_list, isTy_NoneType_tuple, isTy_NoneType_dict, isTy_bool_bool, isTy_bool_int, isTy_bool_str, isTy_bool_list, isTy_bool_tuple, isTy_bool_dict, isTy_int_bool, isTy_int_int, isTy_int_str, isTy_int_list, isTy_int_tuple, isTy_int_dict, isTy_str_bool, isTy_str_int, isTy_str_str, isTy_str_list, isTy_str_tuple, isTy_str_dict, isTy_list_bool, isTy_list_int, isTy_list_str, isTy_list_list, isTy_list_tuple, isTy_list_dict, isTy_tuple_bool, isTy_tuple_int, isTy_tuple_str, isTy_tuple_list, isTy_tuple_tuple, isTy_tuple_dict, isTy_dict_bool, isTy_dict_int, isTy_dict_str, isTy_dict_list, isTy_dict_tuple, isTy_dict_dict, sMulti_ap, giveE, eSl_ap, pN_ap, pS_ap, dSl_l, dSl_t, isN_non, isN_bl, isN_int, isN_str, isN_lst, isN_tup, isN_dct, isN_fn, isN_row, Bool.or_true, Bool.or_false, Bool.true_or, Bool.false_or, reduceCtorEq, eq_self, ↓reduceIte, dEqB_int', decide_true]
  by_cases hp : 0 < max0 (awayI ds bs)
  · rw [decide_eq_true hp]
    simp only [ret_ap, bnd_ap, ask_ap, fail_ap, noE_ap, eName_ap, eOwn_ap, eC_ap, e1_ap, e2_ap, e2g_ap, e3_ap, tst_ap, bAnd_ap, bOr_ap, bNot_ap, bYes_ap, vAnd_ap, vOr_ap, vNot_ap, tru_ap, eIf_ap, aNil_ap, aCons_ap, aStar_ap, eTup_ap, eLst_ap, eTupS_ap, eLstS_ap, eCall_ap, eRef_ap, eIsi_ap, eIsi2_ap, iSeq_ap, iEn_ap, iR1_ap, iR2_ap, iR3_ap, eLc_ap, sNil_ap, sSeq_ap, sFrz_ap, sExpr_ap, sRet_ap, sAsg_ap, sOwn_ap, sIf_ap, sFor_ap, sAug_ap, sApp_ap, sExt_ap, sRaise_ap, gN_ap, gT_ap, gsC_ap, gs0_ap, sq_rt, sq_ex, sq_bk, sq_ct, lp_rt, lp_ex, lp_bk, lp_ct, lp_nx, kS_rt, kS_ex, kS_nx, List.getElem?_cons_zero, List.getElem?_cons_succ, List.set_cons_zero, List.set_cons_succ, Option.bind_some, dLen_lst, dLen_tup, dLen_dct, dLen_str, dAdd_ii, dAdd_ss, dAdd_ll, dAdd_tt, dSub_ii, dMul_ii, dMul_li, dFdiv_ii, dMod_ii, dPow_ii, dNeg_i, dCmp_ii, dSum_l, dAll_l, dAny_l, dAbs_i, dInt_i, dInt_b, dList_l, dList_t, dTuple_l, dTuple_t, dMax2_ii, dMin2_ii, dAddI_ii, dRev_l, dIx_l, dIx_t, dIx_d, orFail_some, orFail_none, tru_non, ty_non, tru_bl, ty_bl, tru_int, ty_int, tru_str, ty_str, tru_lst, ty_lst, tru_tup, ty_tup, tru_dct, ty_dct, its_lst, items_lst, its_tup, items_tup, isL_l, dIsN, dNotN, if_true, if_false, Bool.not_true, Bool.not_false, true_and, and_true, wipeE, isTy_NoneType_bool, isTy_NoneType_int, isTy_NoneType_str, isTy_NoneType_list, isTy_NoneType_tuple, isTy_NoneType_dict, isTy_bool_bool, isTy_bool_int, isTy_bool_str, isTy_bool_list, isTy_bool_tuple, isTy_bool_dict, isTy_int_bool, isTy_int_int, isTy_int_str, isTy_int_list, isTy_int_tuple, isTy_int_dict, isTy_str_bool, isTy_str_int, isTy_str_str, isTy_str_list, isTy_str_tuple, isTy_str_dict, isTy_list_bool, isTy_list_int, isTy_list_str, isTy_list_list, isTy_list_tuple, isTy_list_dict, isTy_tuple_bool, isTy_tuple_int, isTy_tuple_str, isTy_tuple_list, isTy_tuple_tuple, isTy_tuple_dict, isTy_dict_bool, isTy_dict_int, isTy_dict_str, isTy_dict_list, isTy_dict_tuple, isTy_dict_dict, sMulti_ap, giveE, eSl_ap, pN_ap, pS_ap, dSl_l, dSl_t, isN_non, isN_bl, isN_int, isN_str, isN_lst, isN_tup, isN_dct, isN_fn, isN_row, Bool.or_true, Bool.or_false, Bool.true_or, Bool.false_or, reduceCtorEq, eq_self, ↓reduceIte]
    refine law_first_ap F bs hb hg (by omega) (by omega) ?_
    obtain ⟨i, hi⟩ := first_less hp
    rw [hi]
    simp only [ret_ap, bnd_ap, ask_ap, fail_ap, noE_ap, eName_ap, eOwn_ap, eC_ap, e1_ap, e2_ap, e2g_ap, e3_ap, tst_ap, bAnd_ap, bOr_ap, bNot_ap, bYes_ap, vAnd_ap, vOr_ap, vNot_ap, tru_ap, eIf_ap, aNil_ap, aCons_ap, aStar_ap, eTup_ap, eLst_ap, eTupS_ap, eLstS_ap, eCall_ap, eRef_ap, eIsi_ap, eIsi2_ap, iSeq_ap, iEn_ap, iR1_ap, iR2_ap, iR3_ap, eLc_ap, sNil_ap, sSeq_ap, sFrz_ap, sExpr_ap, sRet_ap, sAsg_ap, sOwn_ap, sIf_ap, sFor_ap, sAug_ap, sApp_ap, sExt_ap, sRaise_ap, gN_ap, gT_ap, gsC_ap, gs0_ap, sq_rt, sq_ex, sq_bk, sq_ct, lp_rt, lp_ex, lp_bk, lp_ct, lp_nx, kS_rt, kS_ex, kS_nx, List.getElem?_cons_zero, List.getElem?_cons_succ, List.set_cons_zero, List.set_cons_succ, Option.bind_some, dLen_lst, dLen_tup, dLen_dct, dLen_str, dAdd_ii, dAdd_ss, dAdd_ll, dAdd_tt, dSub_ii, dMul_ii, dMul_li, dFdiv_ii, dMod_ii, dPow_ii, dNeg_i, dCmp_ii, dSum_l, dAll_l, dAny_l, dAbs_i, dInt_i, dInt_b, dList_l, dList_t, dTuple_l, dTuple_t, dMax2_ii, dMin2_ii, dAddI_ii, dRev_l, dIx_l, dIx_t, dIx_d, orFail_some, orFail_none, tru_non, ty_non, tru_bl, ty_bl, tru_int, ty_int, tru_str, ty_str, tru_lst, ty_lst, tru_tup, ty_tup, tru_dct, ty_dct, its_lst, items_lst, its_tup, items_tup, isL_l, dIsN, dNotN, if_true, if_false, Bool.not_true, Bool.not_false, true_and, and_true, wipeE, isTy_NoneType_bool, isTy_NoneType_int, isTy_NoneType_str, isTy_NoneType_list, isTy_NoneType_tuple, isTy_NoneType_dict, isTy_bool_bool, isTy_bool_int, isTy_bool_str, isTy_bool_list, isTy_bool_tuple, isTy_bool_dict, isTy_int_bool, isTy_int_int, isTy_int_str, isTy_int_list, isTy_int_tuple, isTy_int_dict, isTy_str_bool, isTy_str_int, isTy_str_str, isTy_str_list, isTy_str_tuple, isTy_str_dict, isTy_list_bool, isTy_list_int, isTy_list_str, isTy_list_list, isTy_list_tuple, isTy_list_dict, isTy_tuple_bool, isTy_tuple_int, isTy_tuple_str, isTy_tuple_list, isTy_tuple_tuple, isTy_tuple_dict, isTy_dict_bool, isTy_dict_int, isTy_dict_str, isTy_dict_list, isTy_dict_tuple, isTy_dict_dict, sMulti_ap, giveE, eSl_ap, pN_ap, pS_ap, dSl_l, dSl_t, isN_non, isN_bl, isN_int, isN_str, isN_lst, isN_tup, isN_dct, isN_fn, isN_row, Bool.or_true, Bool.or_false, Bool.true_or, Bool.false_or, reduceCtorEq, eq_self, ↓reduceIte, decide_eq_false (show ¬ ((i : Nat) : Int) < 0 by omega), sq_nx]
    simp only [ret_ap, bnd_ap, ask_ap, fail_ap, noE_ap, eName_ap, eOwn_ap, eC_ap, e1_ap, e2_ap, e2g_ap, e3_ap, tst_ap, bAnd_ap, bOr_ap, bNot_ap, bYes_ap, vAnd_ap, vOr_ap, vNot_ap, tru_ap, eIf_ap, aNil_ap, aCons_ap, aStar_ap, eTup_ap, eLst_ap, eTupS_ap, eLstS_ap, eCall_ap, eRef_ap, eIsi_ap, eIsi2_ap, iSeq_ap, iEn_ap, iR1_ap, iR2_ap, iR3_ap, eLc_ap, sNil_ap, sSeq_ap, sFrz_ap, sExpr_ap, sRet_ap, sAsg_ap, sOwn_ap, sIf_ap, sFor_ap, sAug_ap, sApp_ap, sExt_ap, sRaise_ap, gN_ap, gT_ap, gsC_ap, gs0_ap, sq_rt, sq_ex, sq_bk, sq_ct, lp_rt, lp_ex, lp_bk, lp_ct, lp_nx, kS_rt, kS_ex, kS_nx, List.getElem?_cons_zero, List.getElem?_cons_succ, List.set_cons_zero, List.set_cons_succ, Option.bind_some, dLen_lst, dLen_tup, dLen_dct, dLen_str, dAdd_ii, dAdd_ss, dAdd_ll, dAdd_tt, dSub_ii, dMul_ii, dMul_li, dFdiv_ii, dMod_ii, dPow_ii, dNeg_i, dCmp_ii, dSum_l, dAll_l, dAny_l, dAbs_i, dInt_i, dInt_b, dList_l, dList_t, dTuple_l, dTuple_t, dMax2_ii, dMin2_ii, dAddI_ii, dRev_l, dIx_l, dIx_t, dIx_d, orFail_some, orFail_none, tru_non, ty_non, tru_bl, ty_bl, tru_int, ty_int, tru_str, ty_str, tru_lst, ty_lst, tru_tup, ty_tup, tru_dct, ty_dct, its_lst, items_lst, its_tup, items_tup, isL_l, dIsN, dNotN, if_true, if_false, Bool.not_true, Bool.not_false, true_and, and_true, wipeE, isTy_NoneType_bool, isTy_NoneType_int, isTy_NoneType_str, isTy_NoneType_list, isTy_NoneType_tuple, isTy_NoneType_dict, isTy_bool_bool, isTy_bool_int, isTy_bool_str, isTy_bool_list, isTy_bool_tuple, isTy_bool_dict, isTy_int_bool, isTy_int_int, isTy_int_str, isTy_int_list, isTy_int_tuple, isTy_int_dict, isTy_str_bool, isTy_str_int, isTy_str_str, isTy_str_list, isTy_str_tuple, isTy_str_dict, isTy_list_bool, isTy_list_int, isTy_list_str, isTy_list_list, isTy_list_tuple, isTy_list_dict, isTy_tuple_bool, isTy_tuple_int, isTy_tuple_str, isTy_tuple_list, isTy_tuple_tuple, isTy_tuple_dict, isTy_dict_bool, isTy_dict_int, isTy_dict_str, isTy_dict_list, isTy_dict_tuple, isTy_dict_dict, sMulti_ap, giveE, eSl_ap, pN_ap, pS_ap, dSl_l, dSl_t, isN_non, isN_bl, isN_int, isN_str, isN_lst, isN_tup, isN_dct, isN_fn, isN_row, Bool.or_true, Bool.or_false, Bool.true_or, Bool.false_or, reduceCtorEq, eq_self, ↓reduceIte] at tail
    exact tail
  · rw [decide_eq_false hp]
    simp only [ret_ap, bnd_ap, ask_ap, fail_ap, noE_ap, eName_ap, eOwn_ap, eC_ap, e1_ap, e2_ap, e2g_ap, e3_ap, tst_ap, bAnd_ap, bOr_ap, bNot_ap, bYes_ap, vAnd_ap, vOr_ap, vNot_ap, tru_ap, eIf_ap, aNil_ap, aCons_ap, aStar_ap, eTup_ap, eLst_ap, eTupS_ap, eLstS_ap, eCall_ap, eRef_ap, eIsi_ap, eIsi2_ap, iSeq_ap, iEn_ap, iR1_ap, iR2_ap, iR3_ap, eLc_ap, sNil_ap, sSeq_ap, sFrz_ap, sExpr_ap, sRet_ap, sAsg_ap, sOwn_ap, sIf_ap, sFor_ap, sAug_ap, sApp_ap, sExt_ap, sRaise_ap, gN_ap, gT_ap, gsC_ap, gs0_ap, sq_rt, sq_ex, sq_bk, sq_ct, lp_rt, lp_ex, lp_bk, lp_ct, lp_nx, kS_rt, kS_ex, kS_nx, List.getElem?_cons_zero, List.getElem?_cons_succ, List.set_cons_zero, List.set_cons_succ, Option.bind_some, dLen_lst, dLen_tup, dLen_dct, dLen_str, dAdd_ii, dAdd_ss, dAdd_ll, dAdd_tt, dSub_ii, dMul_ii, dMul_li, dFdiv_ii, dMod_ii, dPow_ii, dNeg_i, dCmp_ii, dSum_l, dAll_l, dAny_l, dAbs_i, dInt_i, dInt_b, dList_l, dList_t, dTuple_l, dTuple_t, dMax2_ii, dMin2_ii, dAddI_ii, dRev_l, dIx_l, dIx_t, dIx_d, orFail_some, orFail_none, tru_non, ty_non, tru_bl, ty_bl, tru_int, ty_int, tru_str, ty_str, tru_lst, ty_lst, tru_tup, ty_tup, tru_dct, ty_dct, its_lst, items_lst, its_tup, items_tup, isL_l, dIsN, dNotN, if_true, if_false, Bool.not_true, Bool.not_false, true_and, and_true, wipeE, isTy_NoneType_bool, isTy_NoneType_int, isTy_NoneType_str, isTy_NoneType_list, isTy_NoneType_tuple, isTy_NoneType_dict, isTy_bool_bool, isTy_bool_int, isTy_bool_str, isTy_bool_list, isTy_bool_tuple, isTy_bool_dict, isTy_int_bool, isTy_int_int, isTy_int_str, isTy_int_list, isTy_int_tuple, isTy_int_dict, isTy_str_bool, isTy_str_int, isTy_str_str, isTy_str_list, isTy_str_tuple, isTy_str_dict, isTy_list_bool, isTy_list_int, isTy_list_str, isTy_list_list, isTy_list_tuple, isTy_list_dict, isTy_tuple_bool, isTy_tuple_int, isTy_tuple_str, isTy_tuple_list, isTy_tuple_tuple, isTy_tuple_dict, isTy_dict_bool, isTy_dict_int, isTy_dict_str, isTy_dict_list, isTy_dict_tuple, isTy_dict_dict, sMulti_ap, giveE, eSl_ap, pN_ap, pS_ap, dSl_l, dSl_t, isN_non, isN_bl, isN_int, isN_str, isN_lst, isN_tup, isN_dct, isN_fn, isN_row, Bool.or_true, Bool.or_false, Bool.true_or, Bool.false_or, reduceCtorEq, eq_self, ↓reduceIte, sq_nx]
    simp only [ret_ap, bnd_ap, ask_ap, fail_ap, noE_ap, eName_ap, eOwn_ap, eC_ap, e1_ap, e2_ap, e2g_ap, e3_ap, tst_ap, bAnd_ap, bOr_ap, bNot_ap, bYes_ap, vAnd_ap, vOr_ap, vNot_ap, tru_ap, eIf_ap, aNil_ap, aCons_ap, aStar_ap, eTup_ap, eLst_ap, eTupS_ap, eLstS_ap, eCall_ap, eRef_ap, eIsi_ap, eIsi2_ap, iSeq_ap, iEn_ap, iR1_ap, iR2_ap, iR3_ap, eLc_ap, sNil_ap, sSeq_ap, sFrz_ap, sExpr_ap, sRet_ap, sAsg_ap, sOwn_ap, sIf_ap, sFor_ap, sAug_ap, sApp_ap, sExt_ap, sRaise_ap, gN_ap, gT_ap, gsC_ap, gs0_ap, sq_rt, sq_ex, sq_bk, sq_ct, lp_rt, lp_ex, lp_bk, lp_ct, lp_nx, kS_rt, kS_ex, kS_nx, List.getElem?_cons_zero, List.getElem?_cons_succ, List.set_cons_zero, List.set_cons_succ, Option.bind_some, dLen_lst, dLen_tup, dLen_dct, dLen_str, dAdd_ii, dAdd_ss, dAdd_ll, dAdd_tt, dSub_ii, dMul_ii, dMul_li, dFdiv_ii, dMod_ii, dPow_ii, dNeg_i, dCmp_ii, dSum_l, dAll_l, dAny_l, dAbs_i, dInt_i, dInt_b, dList_l, dList_t, dTuple_l, dTuple_t, dMax2_ii, dMin2_ii, dAddI_ii, dRev_l, dIx_l, dIx_t, dIx_d, orFail_some, orFail_none, tru_non, ty_non, tru_bl, ty_bl, tru_int, ty_int, tru_str, ty_str, tru_lst, ty_lst, tru_tup, ty_tup, tru_dct, ty_dct, its_lst, items_lst, its_tup, items_tup, isL_l, dIsN, dNotN, if_true, if_false, Bool.not_true, Bool.not_false, true_and, and_true, wipeE, isTy_NoneType_bool, isTy_NoneType_int, isTy_NoneType_str, isTy_NoneType_list, isTy_NoneType_tuple, isTy_NoneType_dict, isTy_bool_bool, isTy_bool_int, isTy_bool_str, isTy_bool_list, isTy_bool_tuple, isTy_bool_dict, isTy_int_bool, isTy_int_int, isTy_int_str, isTy_int_list, isTy_int_tuple, isTy_int_dict, isTy_str_bool, isTy_str_int, isTy_str_str, isTy_str_list, isTy_str_tuple, isTy_str_dict, isTy_list_bool, isTy_list_int, isTy_list_str, isTy_list_list, isTy_list_tuple, isTy_list_dict, isTy_tuple_bool, isTy_tuple_int, isTy_tuple_str, isTy_tuple_list, isTy_tuple_tuple, isTy_tuple_dict, isTy_dict_bool, isTy_dict_int, isTy_dict_str, isTy_dict_list, isTy_dict_tuple, isTy_dict_dict, sMulti_ap, giveE, eSl_ap, pN_ap, pS_ap, dSl_l, dSl_t, isN_non, isN_bl, isN_int, isN_str, isN_lst, isN_tup, isN_dct, isN_fn, isN_row, Bool.or_true, Bool.or_false, Bool.true_or, Bool.false_or, reduceCtorEq, eq_self, ↓reduceIte] at tail
    exact tail
theorem law5 (F : Days ds) (h1 : 1 ≤ t) (h2 : t ≤ 12) (hp : p ≤ 3) (h : ∀ b9 b10, rest (eA ds t p a2 a3 b9 b10 .no .no .no .no .no .no .no .no) [] KL) : sSeq (sFor (iSeq (eLst (aCons (eTup (aCons (eName 7) (aCons (eCall c_spares_needed (aCons (e1 dTuple (eName 4)) (aCons (eName 5) aNil))) aNil))) (aCons (eTup (aCons (eName 8) (aCons (eCall c_shop_spares (aCons (eName 4) (aCons (eName 5) (aCons (eName 6) aNil)))) aNil))) aNil)))) (gT (gsC (gN 9) (gsC (gN 10) gs0))) (sSeq (sIf (bOr (bNot (tru (eIsi "int" (eName 10)))) (bOr (tst (e2 dNe (eCall c_law_first (aCons (eName 4) (aCons (eName 9) (aCons (eName 10) aNil)))) (e1 dNeg (eC (.int 1))))) (bAnd (tst (e2 dGt (eName 10) (eC (.int 0)))) (tst (e2 dLt (eCall c_law_first (aCons (eName 4) (aCons (eName 9) (aCons (e2 dSub (eName 10) (eC (.int 1))) aNil)))) (eC (.int 0))))))) (sRet (eC (.bl false))) sNil) (sIf (tst (e2 dNe (e2 dEq (eName 10) (eC (.int 0))) (e2 dEq (eName 4) (eLst aNil)))) (sRet (eC (.bl false))) sNil))) rest (eA ds t p a2 a3 .no .no .no .no .no .no .no .no .no .no) [] KL := by
  simp only [sSeq_ap, sFor_ap, iSeq_ap, eLst_ap, aCons_ap, aNil_ap, eTup_ap, eName_ap, eCall_ap, e1_ap, dTuple_l, ret_ap, List.getElem?_cons_zero, List.getElem?_cons_succ]
  refine spares_needed_ap F (.inr rfl) h1 (by omega) ?_
  refine shop_spares_ap F (.inl rfl) h1 (by omega) (by omega) ?_
  simp only [its_lst]
  rw [forM_cons]
  simp only [gT_ap, gsC_ap, gs0_ap, gN_ap, Option.bind_some, List.set_cons_zero, List.set_cons_succ]
  refine pair_body F (plain_length ds t) (fun i hi => plain_gt h1 i hi) ?_
  rw [lp_nx, forM_cons]
  simp only [gT_ap, gsC_ap, gs0_ap, gN_ap, Option.bind_some, List.set_cons_zero, List.set_cons_succ]
  refine pair_body F (backs_length ds t p) (fun i hi => backs_gt h1 i hi) ?_
  rw [lp_nx, forM_nil, sq_nx]
  exact h _ _
theorem law6 (F : Days ds) (h1 : 1 ≤ t) (h2 : t ≤ 12) (h : ∀ b11 b12, rest (eA ds t p a2 a3 b9 b10 b11 b12 .no .no .no .no .no .no) [] KL) : sSeq (sFor (iR1 (aCons (e2 dAdd (e2 dMin2 (e1 dLen (eName 4)) (eC (.int 8))) (eC (.int 2))) aNil)) (gN 11) (sSeq (sAsg (gN 12) (eCall c_law_first (aCons (eName 4) (aCons (eName 7) (aCons (eName 11) aNil))))) (sIf (bNot (tru (eCall (c_law_alike 8) (aCons (eCall c_first_without (aCons (eName 4) (aCons (eName 5) (aCons (eName 11) aNil)))) (aCons (eIf (tst (e2 dGe (eName 12) (eC (.int 0)))) (eName 12) (eC .non)) aNil))))) (sRet (eC (.bl false))) sNil))) rest (eA ds t p a2 a3 b9 b10 .no .no .no .no .no .no .no .no) [] KL := by
  have f60 := F.len
  have el : (ds.map D.int).length = ds.length := List.length_map ..
  simp only [ret_ap, bnd_ap, ask_ap, fail_ap, noE_ap, eName_ap, eOwn_ap, eC_ap, e1_ap, e2_ap, e2g_ap, e3_ap, tst_ap, bAnd_ap, bOr_ap, bNot_ap, bYes_ap, vAnd_ap, vOr_ap, vNot_ap, tru_ap, eIf_ap, aNil_ap, aCons_ap, aStar_ap, eTup_ap, eLst_ap, eTupS_ap, eLstS_ap, eCall_ap, eRef_ap, eIsi_ap, eIsi2_ap, iSeq_ap, iEn_ap, iR1_ap, iR2_ap, iR3_ap, eLc_ap, sNil_ap, sSeq_ap, sFrz_ap, sExpr_ap, sRet_ap, sAsg_ap, sOwn_ap, sIf_ap, sFor_ap, sAug_ap, sApp_ap, sExt_ap, sRaise_ap, gN_ap, gT_ap, gsC_ap, gs0_ap, sq_rt, sq_ex, sq_bk, sq_ct, lp_rt, lp_ex, lp_bk, lp_ct, lp_nx, kS_rt, kS_ex, kS_nx, List.getElem?_cons_zero, List.getElem?_cons_succ, List.set_cons_zero, List.set_cons_succ, Option.bind_some, dLen_lst, dLen_tup, dLen_dct, dLen_str, dAdd_ii, dAdd_ss, dAdd_ll, dAdd_tt, dSub_ii, dMul_ii, dMul_li, dFdiv_ii, dMod_ii, dPow_ii, dNeg_i, dCmp_ii, dSum_l, dAll_l, dAny_l, dAbs_i, dInt_i, dInt_b, dList_l, dList_t, dTuple_l, dTuple_t, dMax2_ii, dMin2_ii, dAddI_ii, dRev_l, dIx_l, dIx_t, dIx_d, orFail_some, orFail_none, tru_non, ty_non, tru_bl, ty_bl, tru_int, ty_int, tru_str, ty_str, tru_lst, ty_lst, tru_tup, ty_tup, tru_dct, ty_dct, its_lst, items_lst, its_tup, items_tup, isL_l, dIsN, dNotN, if_true, if_false, Bool.not_true, Bool.not_false, true_and, and_true, wipeE, isTy_NoneType_bool, isTy_NoneType_int, isTy_NoneType_str, isTy_NoneType_list, isTy_NoneType_tuple, isTy_NoneType_dict, isTy_bool_bool, isTy_bool_int, isTy_bool_str, isTy_bool_list, isTy_bool_tuple, isTy_bool_dict, isTy_int_bool, isTy_int_int, isTy_int_str, isTy_int_list, isTy_int_tuple, isTy_int_dict, isTy_str_bool, isTy_str_int, isTy_str_str, isTy_str_list, isTy_str_tuple, isTy_str_dict, isTy_list_bool, isTy_list_int, isTy_list_str, isTy_list_list, isTy_list_tuple, isTy_list_dict, isTy_tuple_bool, isTy_tuple_int, isTy_tuple_str, isTy_tuple_list, isTy_tuple_tuple, isTy_tuple_dict, isTy_dict_bool, isTy_dict_int, isTy_dict_str, isTy_dict_list, isTy_dict_tuple, isTy_dict_dict, sMulti_ap, giveE, eSl_ap, pN_ap, pS_ap, dSl_l, dSl_t, isN_non, isN_bl, isN_int, isN_str, isN_lst, isN_tup, isN_dct, isN_fn, isN_row, Bool.or_true, Bool.or_false, Bool.true_or, Bool.false_or, reduceCtorEq, eq_self, ↓reduceIte, el]
  have hm : (if (8 : Int) < ds.length then (8 : Int) else ds.length) ≤ 8 := by split <;> omega
  have hm0 : 0 ≤ (if (8 : Int) < ds.length then (8 : Int) else ds.length) := by split <;> omega
  generalize (if (8 : Int) < ds.length then (8 : Int) else ds.length) = mm at hm hm0
  refine ⟨⟨small62_of (by omega) (by omega), small_leni (by omega)⟩, ?_⟩
  refine forM_inv (fun i e w => ∃ b11 b12, e = eA ds t p a2 a3 b9 b10 b11 b12 .no .no .no .no .no .no ∧ w = []) ⟨_, _, rfl, rfl⟩ ?_ ?_
  · rintro i d e w P hd ⟨b11, b12, rfl, rfl⟩ hP
    rw [rangeD_get] at hd
    have hi : i < 10 := by
      by_cases z : i < (mm + 2).toNat
      · omega
      · rw [if_neg z] at hd; cases hd
    have hz : i < (mm + 2).toNat := by
      by_cases z : i < (mm + 2).toNat
      · exact z
      · rw [if_neg z] at hd; cases hd
    rw [if_pos hz] at hd
    cases hd
    rw [Int.zero_add]
    refine ⟨_, rfl, ?_⟩
    simp only [ret_ap, bnd_ap, ask_ap, fail_ap, noE_ap, eName_ap, eOwn_ap, eC_ap, e1_ap, e2_ap, e2g_ap, e3_ap, tst_ap, bAnd_ap, bOr_ap, bNot_ap, bYes_ap, vAnd_ap, vOr_ap, vNot_ap, tru_ap, eIf_ap, aNil_ap, aCons_ap, aStar_ap, eTup_ap, eLst_ap, eTupS_ap, eLstS_ap, eCall_ap, eRef_ap, eIsi_ap, eIsi2_ap, iSeq_ap, iEn_ap, iR1_ap, iR2_ap, iR3_ap, eLc_ap, sNil_ap, sSeq_ap, sFrz_ap, sExpr_ap, sRet_ap, sAsg_ap, sOwn_ap, sIf_ap, sFor_ap, sAug_ap, sApp_ap, sExt_ap, sRaise_ap, gN_ap, gT_ap, gsC_ap, gs0_ap, sq_rt, sq_ex, sq_bk, sq_ct, lp_rt, lp_ex, lp_bk, lp_ct, lp_nx, kS_rt, kS_ex, kS_nx, List.getElem?_cons_zero, List.getElem?_cons_succ, List.set_cons_zero, List.set_cons_succ, Option.bind_some, dLen_lst, dLen_tup, dLen_dct, dLen_str, dAdd_ii, dAdd_ss, dAdd_ll, dAdd_tt, dSub_ii, dMul_ii, dMul_li, dFdiv_ii, dMod_ii, dPow_ii, dNeg_i, dCmp_ii, dSum_l, dAll_l, dAny_l, dAbs_i, dInt_i, dInt_b, dList_l, dList_t, dTuple_l, dTuple_t, dMax2_ii, dMin2_ii, dAddI_ii, dRev_l, dIx_l, dIx_t, dIx_d, orFail_some, orFail_none, tru_non, ty_non, tru_bl, ty_bl, tru_int, ty_int, tru_str, ty_str, tru_lst, ty_lst, tru_tup, ty_tup, tru_dct, ty_dct, its_lst, items_lst, its_tup, items_tup, isL_l, dIsN, dNotN, if_true, if_false, Bool.not_true, Bool.not_false, true_and, and_true, wipeE, isTy_NoneType_bool, isTy_NoneType_int, isTy_NoneType_str, isTy_NoneType_list, isTy_NoneType_tuple, isTy_NoneType_dict, isTy_bool_bool, isTy_bool_int, isTy_bool_str, isTy_bool_list, isTy_bool_tuple, isTy_bool_dict, isTy_int_bool, isTy_int_int, isTy_int_str, isTy_int_list, isTy_int_tuple, isTy_int_dict, isTy_str_bool, isTy_str_int, isTy_str_str, isTy_str_list, isTy_str_tuple, isTy_str_dict, isTy_list_bool, isTy_list_int, isTy_list_str, isTy_list_list, isTy_list_tuple, isTy_list_dict, isTy_tuple_bool, isTy_tuple_int, isTy_tuple_str, isTy_tuple_list, isTy_tuple_tuple, isTy_tuple_dict, isTy_dict_bool, isTy_dict_int, isTy_dict_str, isTy_dict_list, isTy_dict_tuple, isTy_dict_dict, sMulti_ap, giveE, eSl_ap, pN_ap, pS_ap, dSl_l, dSl_t, isN_non, isN_bl, isN_int, isN_str, isN_lst, isN_tup, isN_dct, isN_fn, isN_row, Bool.or_true, Bool.or_false, Bool.true_or, Bool.false_or, reduceCtorEq, eq_self, ↓reduceIte]
    refine law_first_ap F (plainB ds t) (plain_length ds t) (fun i hi => plain_gt h1 i hi) (by omega) (by omega) ?_
    simp only [ret_ap, bnd_ap, ask_ap, fail_ap, noE_ap, eName_ap, eOwn_ap, eC_ap, e1_ap, e2_ap, e2g_ap, e3_ap, tst_ap, bAnd_ap, bOr_ap, bNot_ap, bYes_ap, vAnd_ap, vOr_ap, vNot_ap, tru_ap, eIf_ap, aNil_ap, aCons_ap, aStar_ap, eTup_ap, eLst_ap, eTupS_ap, eLstS_ap, eCall_ap, eRef_ap, eIsi_ap, eIsi2_ap, iSeq_ap, iEn_ap, iR1_ap, iR2_ap, iR3_ap, eLc_ap, sNil_ap, sSeq_ap, sFrz_ap, sExpr_ap, sRet_ap, sAsg_ap, sOwn_ap, sIf_ap, sFor_ap, sAug_ap, sApp_ap, sExt_ap, sRaise_ap, gN_ap, gT_ap, gsC_ap, gs0_ap, sq_rt, sq_ex, sq_bk, sq_ct, lp_rt, lp_ex, lp_bk, lp_ct, lp_nx, kS_rt, kS_ex, kS_nx, List.getElem?_cons_zero, List.getElem?_cons_succ, List.set_cons_zero, List.set_cons_succ, Option.bind_some, dLen_lst, dLen_tup, dLen_dct, dLen_str, dAdd_ii, dAdd_ss, dAdd_ll, dAdd_tt, dSub_ii, dMul_ii, dMul_li, dFdiv_ii, dMod_ii, dPow_ii, dNeg_i, dCmp_ii, dSum_l, dAll_l, dAny_l, dAbs_i, dInt_i, dInt_b, dList_l, dList_t, dTuple_l, dTuple_t, dMax2_ii, dMin2_ii, dAddI_ii, dRev_l, dIx_l, dIx_t, dIx_d, orFail_some, orFail_none, tru_non, ty_non, tru_bl, ty_bl, tru_int, ty_int, tru_str, ty_str, tru_lst, ty_lst, tru_tup, ty_tup, tru_dct, ty_dct, its_lst, items_lst, its_tup, items_tup, isL_l, dIsN, dNotN, if_true, if_false, Bool.not_true, Bool.not_false, true_and, and_true, wipeE, isTy_NoneType_bool, isTy_NoneType_int, isTy_NoneType_str, isTy_NoneType_list, isTy_NoneType_tuple, isTy_NoneType_dict, isTy_bool_bool, isTy_bool_int, isTy_bool_str, isTy_bool_list, isTy_bool_tuple, isTy_bool_dict, isTy_int_bool, isTy_int_int, isTy_int_str, isTy_int_list, isTy_int_tuple, isTy_int_dict, isTy_str_bool, isTy_str_int, isTy_str_str, isTy_str_list, isTy_str_tuple, isTy_str_dict, isTy_list_bool, isTy_list_int, isTy_list_str, isTy_list_list, isTy_list_tuple, isTy_list_dict, isTy_tuple_bool, isTy_tuple_int, isTy_tuple_str, isTy_tuple_list, isTy_tuple_tuple, isTy_tuple_dict, isTy_dict_bool, isTy_dict_int, isTy_dict_str, isTy_dict_list, isTy_dict_tuple, isTy_dict_dict, sMulti_ap, giveE, eSl_ap, pN_ap, pS_ap, dSl_l, dSl_t, isN_non, isN_bl, isN_int, isN_str, isN_lst, isN_tup, isN_dct, isN_fn, isN_row, Bool.or_true, Bool.or_false, Bool.true_or, Bool.false_or, reduceCtorEq, eq_self, ↓reduceIte, sq_nx]
    refine first_without_ap F (.inl rfl) h1 (by omega) (by omega) (by omega) ?_
    unfold firstI firstOver
    cases q : (awayI ds (plainB ds t)).findIdx? (fun a => decide (((i : Nat) : Int) < a)) with
    | none =>
      simp only [ret_ap, bnd_ap, ask_ap, fail_ap, noE_ap, eName_ap, eOwn_ap, eC_ap, e1_ap, e2_ap, e2g_ap, e3_ap, tst_ap, bAnd_ap, bOr_ap, bNot_ap, bYes_ap, vAnd_ap, vOr_ap, vNot_ap, tru_ap, eIf_ap, aNil_ap, aCons_ap, aStar_ap, eTup_ap, eLst_ap, eTupS_ap, eLstS_ap, eCall_ap, eRef_ap, eIsi_ap, eIsi2_ap, iSeq_ap, iEn_ap, iR1_ap, iR2_ap, iR3_ap, eLc_ap, sNil_ap, sSeq_ap, sFrz_ap, sExpr_ap, sRet_ap, sAsg_ap, sOwn_ap, sIf_ap, sFor_ap, sAug_ap, sApp_ap, sExt_ap, sRaise_ap, gN_ap, gT_ap, gsC_ap, gs0_ap, sq_rt, sq_ex, sq_bk, sq_ct, lp_rt, lp_ex, lp_bk, lp_ct, lp_nx, kS_rt, kS_ex, kS_nx, List.getElem?_cons_zero, List.getElem?_cons_succ, List.set_cons_zero, List.set_cons_succ, Option.bind_some, dLen_lst, dLen_tup, dLen_dct, dLen_str, dAdd_ii, dAdd_ss, dAdd_ll, dAdd_tt, dSub_ii, dMul_ii, dMul_li, dFdiv_ii, dMod_ii, dPow_ii, dNeg_i, dCmp_ii, dSum_l, dAll_l, dAny_l, dAbs_i, dInt_i, dInt_b, dList_l, dList_t, dTuple_l, dTuple_t, dMax2_ii, dMin2_ii, dAddI_ii, dRev_l, dIx_l, dIx_t, dIx_d, orFail_some, orFail_none, tru_non, ty_non, tru_bl, ty_bl, tru_int, ty_int, tru_str, ty_str, tru_lst, ty_lst, tru_tup, ty_tup, tru_dct, ty_dct, its_lst, items_lst, its_tup, items_tup, isL_l, dIsN, dNotN, if_true, if_false, Bool.not_true, Bool.not_false, true_and, and_true, wipeE, isTy_NoneType_bool, isTy_NoneType_int, isTy_NoneType_str, isTy_NoneType_list, isTy_NoneType_tuple, isTy_NoneType_dict, isTy_bool_bool, isTy_bool_int, isTy_bool_str, isTy_bool_list, isTy_bool_tuple, isTy_bool_dict, isTy_int_bool, isTy_int_int, isTy_int_str, isTy_int_list, isTy_int_tuple, isTy_int_dict, isTy_str_bool, isTy_str_int, isTy_str_str, isTy_str_list, isTy_str_tuple, isTy_str_dict, isTy_list_bool, isTy_list_int, isTy_list_str, isTy_list_list, isTy_list_tuple, isTy_list_dict, isTy_tuple_bool, isTy_tuple_int, isTy_tuple_str, isTy_tuple_list, isTy_tuple_tuple, isTy_tuple_dict, isTy_dict_bool, isTy_dict_int, isTy_dict_str, isTy_dict_list, isTy_dict_tuple, isTy_dict_dict, sMulti_ap, giveE, eSl_ap, pN_ap, pS_ap, dSl_l, dSl_t, isN_non, isN_bl, isN_int, isN_str, isN_lst, isN_tup, isN_dct, isN_fn, isN_row, Bool.or_true, Bool.or_false, Bool.true_or, Bool.false_or, reduceCtorEq, eq_self, ↓reduceIte, decide_eq_false (show ¬ (0 : Int) ≤ -1 by decide)]
      refine alike_self 7 .non rfl ?_
      simp only [ret_ap, bnd_ap, ask_ap, fail_ap, noE_ap, eName_ap, eOwn_ap, eC_ap, e1_ap, e2_ap, e2g_ap, e3_ap, tst_ap, bAnd_ap, bOr_ap, bNot_ap, bYes_ap, vAnd_ap, vOr_ap, vNot_ap, tru_ap, eIf_ap, aNil_ap, aCons_ap, aStar_ap, eTup_ap, eLst_ap, eTupS_ap, eLstS_ap, eCall_ap, eRef_ap, eIsi_ap, eIsi2_ap, iSeq_ap, iEn_ap, iR1_ap, iR2_ap, iR3_ap, eLc_ap, sNil_ap, sSeq_ap, sFrz_ap, sExpr_ap, sRet_ap, sAsg_ap, sOwn_ap, sIf_ap, sFor_ap, sAug_ap, sApp_ap, sExt_ap, sRaise_ap, gN_ap, gT_ap, gsC_ap, gs0_ap, sq_rt, sq_ex, sq_bk, sq_ct, lp_rt, lp_ex, lp_bk, lp_ct, lp_nx, kS_rt, kS_ex, kS_nx, List.getElem?_cons_zero, List.getElem?_cons_succ, List.set_cons_zero, List.set_cons_succ, Option.bind_some, dLen_lst, dLen_tup, dLen_dct, dLen_str, dAdd_ii, dAdd_ss, dAdd_ll, dAdd_tt, dSub_ii, dMul_ii, dMul_li, dFdiv_ii, dMod_ii, dPow_ii, dNeg_i, dCmp_ii, dSum_l, dAll_l, dAny_l, dAbs_i, dInt_i, dInt_b, dList_l, dList_t, dTuple_l, dTuple_t, dMax2_ii, dMin2_ii, dAddI_ii, dRev_l, dIx_l, dIx_t, dIx_d, orFail_some, orFail_none, tru_non, ty_non, tru_bl, ty_bl, tru_int, ty_int, tru_str, ty_str, tru_lst, ty_lst, tru_tup, ty_tup, tru_dct, ty_dct, its_lst, items_lst, its_tup, items_tup, isL_l, dIsN, dNotN, if_true, if_false, Bool.not_true, Bool.not_false, true_and, and_true, wipeE, isTy_NoneType_bool, isTy_NoneType_int, isTy_NoneType_str, isTy_NoneType_list, isTy_NoneType_tuple, isTy_NoneType_dict, isTy_bool_bool, isTy_bool_int, isTy_bool_str, isTy_bool_list, isTy_bool_tuple, isTy_bool_dict, isTy_int_bool, isTy_int_int, isTy_int_str, isTy_int_list, isTy_int_tuple, isTy_int_dict, isTy_str_bool, isTy_str_int, isTy_str_str, isTy_str_list, isTy_str_tuple, isTy_str_dict, isTy_list_bool, isTy_list_int, isTy_list_str, isTy_list_list, isTy_list_tuple, isTy_list_dict, isTy_tuple_bool, isTy_tuple_int, isTy_tuple_str, isTy_tuple_list, isTy_tuple_tuple, isTy_tuple_dict, isTy_dict_bool, isTy_dict_int, isTy_dict_str, isTy_dict_list, isTy_dict_tuple, isTy_dict_dict, sMulti_ap, giveE, eSl_ap, pN_ap, pS_ap, dSl_l, dSl_t, isN_non, isN_bl, isN_int, isN_str, isN_lst, isN_tup, isN_dct, isN_fn, isN_row, Bool.or_true, Bool.or_false, Bool.true_or, Bool.false_or, reduceCtorEq, eq_self, ↓reduceIte]
      exact hP _ _ ⟨_, _, rfl, rfl⟩
    | some j =>
      simp only [ret_ap, bnd_ap, ask_ap, fail_ap, noE_ap, eName_ap, eOwn_ap, eC_ap, e1_ap, e2_ap, e2g_ap, e3_ap, tst_ap, bAnd_ap, bOr_ap, bNot_ap, bYes_ap, vAnd_ap, vOr_ap, vNot_ap, tru_ap, eIf_ap, aNil_ap, aCons_ap, aStar_ap, eTup_ap, eLst_ap, eTupS_ap, eLstS_ap, eCall_ap, eRef_ap, eIsi_ap, eIsi2_ap, iSeq_ap, iEn_ap, iR1_ap, iR2_ap, iR3_ap, eLc_ap, sNil_ap, sSeq_ap, sFrz_ap, sExpr_ap, sRet_ap, sAsg_ap, sOwn_ap, sIf_ap, sFor_ap, sAug_ap, sApp_ap, sExt_ap, sRaise_ap, gN_ap, gT_ap, gsC_ap, gs0_ap, sq_rt, sq_ex, sq_bk, sq_ct, lp_rt, lp_ex, lp_bk, lp_ct, lp_nx, kS_rt, kS_ex, kS_nx, List.getElem?_cons_zero, List.getElem?_cons_succ, List.set_cons_zero, List.set_cons_succ, Option.bind_some, dLen_lst, dLen_tup, dLen_dct, dLen_str, dAdd_ii, dAdd_ss, dAdd_ll, dAdd_tt, dSub_ii, dMul_ii, dMul_li, dFdiv_ii, dMod_ii, dPow_ii, dNeg_i, dCmp_ii, dSum_l, dAll_l, dAny_l, dAbs_i, dInt_i, dInt_b, dList_l, dList_t, dTuple_l, dTuple_t, dMax2_ii, dMin2_ii, dAddI_ii, dRev_l, dIx_l, dIx_t, dIx_d, orFail_some, orFail_none, tru_non, ty_non, tru_bl, ty_bl, tru_int, ty_int, tru_str, ty_str, tru_lst, ty_lst, tru_tup, ty_tup, tru_dct, ty_dct, its_lst, items_lst, its_tup, items_tup, isL_l, dIsN, dNotN, if_true, if_false, Bool.not_true, Bool.not_false, true_and, and_true, wipeE, isTy_NoneType_bool, isTy_NoneType_int, isTy_NoneType_str, isTy_NoneType_list, isTy_NoneType_tuple, isTy_NoneType_dict, isTy_bool_bool, isTy_bool_int, isTy_bool_str, isTy_bool_list, isTy_bool_tuple, isTy_bool_dict, isTy_int_bool, isTy_int_int, isTy_int_str, isTy_int_list, isTy_int_tuple, isTy_int_dict, isTy_str_bool, isTy_str_int, isTy_str_str, isTy_str_list, isTy_str_tuple, isTy_str_dict, isTy_list_bool, isTy_list_int, isTy_list_str, isTy_list_list, isTy_list_tuple, isTy_list_dict, isTy_tuple_bool, isTy_tuple_int, isTy_tuple_str, isTy_tuple_list, isTy_tuple_tuple, isTy_tuple_dict, isTy_dict_bool, isTy_dict_int, isTy_dict_str, isTy_dict_list, isTy_dict_tuple, isTy_dict_dict, sMulti_ap, giveE, eSl_ap, pN_ap, pS_ap, dSl_l, dSl_t, isN_non, isN_bl, isN_int, isN_str, isN_lst, isN_tup, isN_dct, isN_fn, isN_row, Bool.or_true, Bool.or_false, Bool.true_or, Bool.false_or, reduceCtorEq, eq_self, ↓reduceIte, decide_eq_true (show (0 : Int) ≤ (j : Nat) by omega)]
      refine alike_self 7 (.int (j : Nat)) rfl ?_
      simp only [ret_ap, bnd_ap, ask_ap, fail_ap, noE_ap, eName_ap, eOwn_ap, eC_ap, e1_ap, e2_ap, e2g_ap, e3_ap, tst_ap, bAnd_ap, bOr_ap, bNot_ap, bYes_ap, vAnd_ap, vOr_ap, vNot_ap, tru_ap, eIf_ap, aNil_ap, aCons_ap, aStar_ap, eTup_ap, eLst_ap, eTupS_ap, eLstS_ap, eCall_ap, eRef_ap, eIsi_ap, eIsi2_ap, iSeq_ap, iEn_ap, iR1_ap, iR2_ap, iR3_ap, eLc_ap, sNil_ap, sSeq_ap, sFrz_ap, sExpr_ap, sRet_ap, sAsg_ap, sOwn_ap, sIf_ap, sFor_ap, sAug_ap, sApp_ap, sExt_ap, sRaise_ap, gN_ap, gT_ap, gsC_ap, gs0_ap, sq_rt, sq_ex, sq_bk, sq_ct, lp_rt, lp_ex, lp_bk, lp_ct, lp_nx, kS_rt, kS_ex, kS_nx, List.getElem?_cons_zero, List.getElem?_cons_succ, List.set_cons_zero, List.set_cons_succ, Option.bind_some, dLen_lst, dLen_tup, dLen_dct, dLen_str, dAdd_ii, dAdd_ss, dAdd_ll, dAdd_tt, dSub_ii, dMul_ii, dMul_li, dFdiv_ii, dMod_ii, dPow_ii, dNeg_i, dCmp_ii, dSum_l, dAll_l, dAny_l, dAbs_i, dInt_i, dInt_b, dList_l, dList_t, dTuple_l, dTuple_t, dMax2_ii, dMin2_ii, dAddI_ii, dRev_l, dIx_l, dIx_t, dIx_d, orFail_some, orFail_none, tru_non, ty_non, tru_bl, ty_bl, tru_int, ty_int, tru_str, ty_str, tru_lst, ty_lst, tru_tup, ty_tup, tru_dct, ty_dct, its_lst, items_lst, its_tup, items_tup, isL_l, dIsN, dNotN, if_true, if_false, Bool.not_true, Bool.not_false, true_and, and_true, wipeE, isTy_NoneType_bool, isTy_NoneType_int, isTy_NoneType_str, isTy_NoneType_list, isTy_NoneType_tuple, isTy_NoneType_dict, isTy_bool_bool, isTy_bool_int, isTy_bool_str, isTy_bool_list, isTy_bool_tuple, isTy_bool_dict, isTy_int_bool, isTy_int_int, isTy_int_str, isTy_int_list, isTy_int_tuple, isTy_int_dict, isTy_str_bool, isTy_str_int, isTy_str_str, isTy_str_list, isTy_str_tuple, isTy_str_dict, isTy_list_bool, isTy_list_int, isTy_list_str, isTy_list_list, isTy_list_tuple, isTy_list_dict, isTy_tuple_bool, isTy_tuple_int, isTy_tuple_str, isTy_tuple_list, isTy_tuple_tuple, isTy_tuple_dict, isTy_dict_bool, isTy_dict_int, isTy_dict_str, isTy_dict_list, isTy_dict_tuple, isTy_dict_dict, sMulti_ap, giveE, eSl_ap, pN_ap, pS_ap, dSl_l, dSl_t, isN_non, isN_bl, isN_int, isN_str, isN_lst, isN_tup, isN_dct, isN_fn, isN_row, Bool.or_true, Bool.or_false, Bool.true_or, Bool.false_or, reduceCtorEq, eq_self, ↓reduceIte]
      exact hP _ _ ⟨_, _, rfl, rfl⟩
  · rintro e w ⟨b11, b12, rfl, rfl⟩
    simp only [ret_ap, bnd_ap, ask_ap, fail_ap, noE_ap, eName_ap, eOwn_ap, eC_ap, e1_ap, e2_ap, e2g_ap, e3_ap, tst_ap, bAnd_ap, bOr_ap, bNot_ap, bYes_ap, vAnd_ap, vOr_ap, vNot_ap, tru_ap, eIf_ap, aNil_ap, aCons_ap, aStar_ap, eTup_ap, eLst_ap, eTupS_ap, eLstS_ap, eCall_ap, eRef_ap, eIsi_ap, eIsi2_ap, iSeq_ap, iEn_ap, iR1_ap, iR2_ap, iR3_ap, eLc_ap, sNil_ap, sSeq_ap, sFrz_ap, sExpr_ap, sRet_ap, sAsg_ap, sOwn_ap, sIf_ap, sFor_ap, sAug_ap, sApp_ap, sExt_ap, sRaise_ap, gN_ap, gT_ap, gsC_ap, gs0_ap, sq_rt, sq_ex, sq_bk, sq_ct, lp_rt, lp_ex, lp_bk, lp_ct, lp_nx, kS_rt, kS_ex, kS_nx, List.getElem?_cons_zero, List.getElem?_cons_succ, List.set_cons_zero, List.set_cons_succ, Option.bind_some, dLen_lst, dLen_tup, dLen_dct, dLen_str, dAdd_ii, dAdd_ss, dAdd_ll, dAdd_tt, dSub_ii, dMul_ii, dMul_li, dFdiv_ii, dMod_ii, dPow_ii, dNeg_i, dCmp_ii, dSum_l, dAll_l, dAny_l, dAbs_i, dInt_i, dInt_b, dList_l, dList_t, dTuple_l, dTuple_t, dMax2_ii, dMin2_ii, dAddI_ii, dRev_l, dIx_l, dIx_t, dIx_d, orFail_some, orFail_none, tru_non, ty_non, tru_bl, ty_bl, tru_int, ty_int, tru_str, ty_str, tru_lst, ty_lst, tru_tup, ty_tup, tru_dct, ty_dct, its_lst, items_lst, its_tup, items_tup, isL_l, dIsN, dNotN, if_true, if_false, Bool.not_true, Bool.not_false, true_and, and_true, wipeE, isTy_NoneType_bool, isTy_NoneType_int, isTy_NoneType_str, isTy_NoneType_list, isTy_NoneType_tuple, isTy_NoneType_dict, isTy_bool_bool, isTy_bool_int, isTy_bool_str, isTy_bool_list, isTy_bool_tuple, isTy_bool_dict, isTy_int_bool, isTy_int_int, isTy_int_str, isTy_int_list, isTy_int_tuple, isTy_int_dict, isTy_str_bool, isTy_str_int, isTy_str_str, isTy_str_list, isTy_str_tuple, isTy_str_dict, isTy_list_bool, isTy_list_int, isTy_list_str, isTy_list_list, isTy_list_tuple, isTy_list_dict, isTy_tuple_bool, isTy_tuple_int, isTy_tuple_str, isTy_tuple_list, isTy_tuple_tuple, isTy_tuple_dict, isTy_dict_bool, isTy_dict_int, isTy_dict_str, isTy_dict_list, isTy_dict_tuple, isTy_dict_dict, sMulti_ap, giveE, eSl_ap, pN_ap, pS_ap, dSl_l, dSl_t, isN_non, isN_bl, isN_int, isN_str, isN_lst, isN_tup, isN_dct, isN_fn, isN_row, Bool.or_true, Bool.or_false, Bool.true_or, Bool.false_or, reduceCtorEq, eq_self, ↓reduceIte, sq_nx]
    exact h _ _
def bestD (ds : List Int) (t : Int) : Option Int → D
  | none => .non
  | some d => .tup [.int (cntN ds t d : Nat), .int d]
theorem law8 (F : Days ds) (h : ∀ (o : Option Int) b14 b15, (o = none ∧ ds = [] ∨ ∃ d, o = some d ∧ IsBest ds t d) → rest (eA ds t p a2 a3 b9 b10 b11 b12 (.v (bestD ds t o)) b14 b15 .no .no .no) [] KL) : sSeq (sFor (iSeq (eName 4)) (gN 14) (sSeq (sAsg (gN 15) (e1 dLen (eLc [20] (gN 20) (tst (e3 dLe dLt (eName 14) (eName 20) (e2 dAdd (eName 14) (eName 5)))) (eName 20) (iSeq (eName 4))))) (sIf (bOr (tst (e2 dIsN (eName 13) (eC .non))) (tst (e2 dGt (eName 15) (e2 dIx (eName 13) (eC (.int 0)))))) (sAsg (gN 13) (eTup (aCons (eName 15) (aCons (eName 14) aNil)))) sNil))) rest (eA ds t p a2 a3 b9 b10 b11 b12 (.v .non) .no .no .no .no .no) [] KL := by
  simp only [ret_ap, bnd_ap, ask_ap, fail_ap, noE_ap, eName_ap, eOwn_ap, eC_ap, e1_ap, e2_ap, e2g_ap, e3_ap, tst_ap, bAnd_ap, bOr_ap, bNot_ap, bYes_ap, vAnd_ap, vOr_ap, vNot_ap, tru_ap, eIf_ap, aNil_ap, aCons_ap, aStar_ap, eTup_ap, eLst_ap, eTupS_ap, eLstS_ap, eCall_ap, eRef_ap, eIsi_ap, eIsi2_ap, iSeq_ap, iEn_ap, iR1_ap, iR2_ap, iR3_ap, eLc_ap, sNil_ap, sSeq_ap, sFrz_ap, sExpr_ap, sRet_ap, sAsg_ap, sOwn_ap, sIf_ap, sFor_ap, sAug_ap, sApp_ap, sExt_ap, sRaise_ap, gN_ap, gT_ap, gsC_ap, gs0_ap, sq_rt, sq_ex, sq_bk, sq_ct, lp_rt, lp_ex, lp_bk, lp_ct, lp_nx, kS_rt, kS_ex, kS_nx, List.getElem?_cons_zero, List.getElem?_cons_succ, List.set_cons_zero, List.set_cons_succ, Option.bind_some, dLen_lst, dLen_tup, dLen_dct, dLen_str, dAdd_ii, dAdd_ss, dAdd_ll, dAdd_tt, dSub_ii, dMul_ii, dMul_li, dFdiv_ii, dMod_ii, dPow_ii, dNeg_i, dCmp_ii, dSum_l, dAll_l, dAny_l, dAbs_i, dInt_i, dInt_b, dList_l, dList_t, dTuple_l, dTuple_t, dMax2_ii, dMin2_ii, dAddI_ii, dRev_l, dIx_l, dIx_t, dIx_d, orFail_some, orFail_none, tru_non, ty_non, tru_bl, ty_bl, tru_int, ty_int, tru_str, ty_str, tru_lst, ty_lst, tru_tup, ty_tup, tru_dct, ty_dct, its_lst, items_lst, its_tup, items_tup, isL_l, dIsN, dNotN, if_true, if_false, Bool.not_true, Bool.not_false, true_and, and_true, wipeE, isTy_NoneType_bool, isTy_NoneType_int, isTy_NoneType_str, isTy_NoneType_list, isTy_NoneType_tuple, isTy_NoneType_dict, isTy_bool_bool, isTy_bool_int, isTy_bool_str, isTy_bool_list, isTy_bool_tuple, isTy_bool_dict, isTy_int_bool, isTy_int_int, isTy_int_str, isTy_int_list, isTy_int_tuple, isTy_int_dict, isTy_str_bool, isTy_str_int, isTy_str_str, isTy_str_list, isTy_str_tuple, isTy_str_dict, isTy_list_bool, isTy_list_int, isTy_list_str, isTy_list_list, isTy_list_tuple, isTy_list_dict, isTy_tuple_bool, isTy_tuple_int, isTy_tuple_str, isTy_tuple_list, isTy_tuple_tuple, isTy_tuple_dict, isTy_dict_bool, isTy_dict_int, isTy_dict_str, isTy_dict_list, isTy_dict_tuple, isTy_dict_dict, sMulti_ap, giveE, eSl_ap, pN_ap, pS_ap, dSl_l, dSl_t, isN_non, isN_bl, isN_int, isN_str, isN_lst, isN_tup, isN_dct, isN_fn, isN_row, Bool.or_true, Bool.or_false, Bool.true_or, Bool.false_or, reduceCtorEq, eq_self, ↓reduceIte]
  refine forM_inv (fun i e w => ∃ (o : Option Int) (b14 b15 : Sl), (o = none ∧ i = 0 ∨ ∃ d, o = some d ∧ d ∈ ds.take i ∧ ∀ x ∈ ds.take i, cntN ds t x < cntN ds t d ∨ (cntN ds t x = cntN ds t d ∧ d ≤ x)) ∧ e = eA ds t p a2 a3 b9 b10 b11 b12 (.v (bestD ds t o)) b14 b15 .no .no .no ∧ w = []) ⟨none, _, _, .inl ⟨rfl, rfl⟩, rfl, rfl⟩ ?_ ?_
  · rintro i d e w P hd ⟨o, b14, b15, ho, rfl, rfl⟩ hP
    rw [List.getElem?_map] at hd
    cases q : ds[i]? with
    | none => rw [q] at hd; cases hd
    | some v =>
      rw [q] at hd
      cases hd
      obtain ⟨hlt, hv⟩ := List.getElem?_eq_some_iff.mp q
      have tk : ds.take (i + 1) = ds.take i ++ [v] := by rw [List.take_add_one, q]; rfl
      refine ⟨_, rfl, ?_⟩
      simp only [ret_ap, bnd_ap, ask_ap, fail_ap, noE_ap, eName_ap, eOwn_ap, eC_ap, e1_ap, e2_ap, e2g_ap, e3_ap, tst_ap, bAnd_ap, bOr_ap, bNot_ap, bYes_ap, vAnd_ap, vOr_ap, vNot_ap, tru_ap, eIf_ap, aNil_ap, aCons_ap, aStar_ap, eTup_ap, eLst_ap, eTupS_ap, eLstS_ap, eCall_ap, eRef_ap, eIsi_ap, eIsi2_ap, iSeq_ap, iEn_ap, iR1_ap, iR2_ap, iR3_ap, eLc_ap, sNil_ap, sSeq_ap, sFrz_ap, sExpr_ap, sRet_ap, sAsg_ap, sOwn_ap, sIf_ap, sFor_ap, sAug_ap, sApp_ap, sExt_ap, sRaise_ap, gN_ap, gT_ap, gsC_ap, gs0_ap, sq_rt, sq_ex, sq_bk, sq_ct, lp_rt, lp_ex, lp_bk, lp_ct, lp_nx, kS_rt, kS_ex, kS_nx, List.getElem?_cons_zero, List.getElem?_cons_succ, List.set_cons_zero, List.set_cons_succ, Option.bind_some, dLen_lst, dLen_tup, dLen_dct, dLen_str, dAdd_ii, dAdd_ss, dAdd_ll, dAdd_tt, dSub_ii, dMul_ii, dMul_li, dFdiv_ii, dMod_ii, dPow_ii, dNeg_i, dCmp_ii, dSum_l, dAll_l, dAny_l, dAbs_i, dInt_i, dInt_b, dList_l, dList_t, dTuple_l, dTuple_t, dMax2_ii, dMin2_ii, dAddI_ii, dRev_l, dIx_l, dIx_t, dIx_d, orFail_some, orFail_none, tru_non, ty_non, tru_bl, ty_bl, tru_int, ty_int, tru_str, ty_str, tru_lst, ty_lst, tru_tup, ty_tup, tru_dct, ty_dct, its_lst, items_lst, its_tup, items_tup, isL_l, dIsN, dNotN, if_true, if_false, Bool.not_true, Bool.not_false, true_and, and_true, wipeE, isTy_NoneType_bool, isTy_NoneType_int, isTy_NoneType_str, isTy_NoneType_list, isTy_NoneType_tuple, isTy_NoneType_dict, isTy_bool_bool, isTy_bool_int, isTy_bool_str, isTy_bool_list, isTy_bool_tuple, isTy_bool_dict, isTy_int_bool, isTy_int_int, isTy_int_str, isTy_int_list, isTy_int_tuple, isTy_int_dict, isTy_str_bool, isTy_str_int, isTy_str_str, isTy_str_list, isTy_str_tuple, isTy_str_dict, isTy_list_bool, isTy_list_int, isTy_list_str, isTy_list_list, isTy_list_tuple, isTy_list_dict, isTy_tuple_bool, isTy_tuple_int, isTy_tuple_str, isTy_tuple_list, isTy_tuple_tuple, isTy_tuple_dict, isTy_dict_bool, isTy_dict_int, isTy_dict_str, isTy_dict_list, isTy_dict_tuple, isTy_dict_dict, sMulti_ap, giveE, eSl_ap, pN_ap, pS_ap, dSl_l, dSl_t, isN_non, isN_bl, isN_int, isN_str, isN_lst, isN_tup, isN_dct, isN_fn, isN_row, Bool.or_true, Bool.or_false, Bool.true_or, Bool.false_or, reduceCtorEq, eq_self, ↓reduceIte]
      refine cnt_ap (fun _ => rfl) (fun _ => rfl) (fun _ => rfl) fun xs hx => ?_
      simp only [ret_ap, bnd_ap, ask_ap, fail_ap, noE_ap, eName_ap, eOwn_ap, eC_ap, e1_ap, e2_ap, e2g_ap, e3_ap, tst_ap, bAnd_ap, bOr_ap, bNot_ap, bYes_ap, vAnd_ap, vOr_ap, vNot_ap, tru_ap, eIf_ap, aNil_ap, aCons_ap, aStar_ap, eTup_ap, eLst_ap, eTupS_ap, eLstS_ap, eCall_ap, eRef_ap, eIsi_ap, eIsi2_ap, iSeq_ap, iEn_ap, iR1_ap, iR2_ap, iR3_ap, eLc_ap, sNil_ap, sSeq_ap, sFrz_ap, sExpr_ap, sRet_ap, sAsg_ap, sOwn_ap, sIf_ap, sFor_ap, sAug_ap, sApp_ap, sExt_ap, sRaise_ap, gN_ap, gT_ap, gsC_ap, gs0_ap, sq_rt, sq_ex, sq_bk, sq_ct, lp_rt, lp_ex, lp_bk, lp_ct, lp_nx, kS_rt, kS_ex, kS_nx, List.getElem?_cons_zero, List.getElem?_cons_succ, List.set_cons_zero, List.set_cons_succ, Option.bind_some, dLen_lst, dLen_tup, dLen_dct, dLen_str, dAdd_ii, dAdd_ss, dAdd_ll, dAdd_tt, dSub_ii, dMul_ii, dMul_li, dFdiv_ii, dMod_ii, dPow_ii, dNeg_i, dCmp_ii, dSum_l, dAll_l, dAny_l, dAbs_i, dInt_i, dInt_b, dList_l, dList_t, dTuple_l, dTuple_t, dMax2_ii, dMin2_ii, dAddI_ii, dRev_l, dIx_l, dIx_t, dIx_d, orFail_some, orFail_none, tru_non, ty_non, tru_bl, ty_bl, tru_int, ty_int, tru_str, ty_str, tru_lst, ty_lst, tru_tup, ty_tup, tru_dct, ty_dct, its_lst, items_lst, its_tup, items_tup, isL_l, dIsN, dNotN, if_true, if_false, Bool.not_true, Bool.not_false, true_and, and_true, wipeE, isTy_NoneType_bool, isTy_NoneType_int, isTy_NoneType_str, isTy_NoneType_list, isTy_NoneType_tuple, isTy_NoneType_dict, isTy_bool_bool, isTy_bool_int, isTy_bool_str, isTy_bool_list, isTy_bool_tuple, isTy_bool_dict, isTy_int_bool, isTy_int_int, isTy_int_str, isTy_int_list, isTy_int_tuple, isTy_int_dict, isTy_str_bool, isTy_str_int, isTy_str_str, isTy_str_list, isTy_str_tuple, isTy_str_dict, isTy_list_bool, isTy_list_int, isTy_list_str, isTy_list_list, isTy_list_tuple, isTy_list_dict, isTy_tuple_bool, isTy_tuple_int, isTy_tuple_str, isTy_tuple_list, isTy_tuple_tuple, isTy_tuple_dict, isTy_dict_bool, isTy_dict_int, isTy_dict_str, isTy_dict_list, isTy_dict_tuple, isTy_dict_dict, sMulti_ap, giveE, eSl_ap, pN_ap, pS_ap, dSl_l, dSl_t, isN_non, isN_bl, isN_int, isN_str, isN_lst, isN_tup, isN_dct, isN_fn, isN_row, Bool.or_true, Bool.or_false, Bool.true_or, Bool.false_or, reduceCtorEq, eq_self, ↓reduceIte, sq_nx, hx]
      have a0 : ∀ x y : D, atI [x, y] 0 = some x := fun _ _ => rfl
      rcases ho with ⟨rfl, rfl⟩ | ⟨d, rfl, h1, h2⟩
      · unfold bestD
        simp only [ret_ap, bnd_ap, ask_ap, fail_ap, noE_ap, eName_ap, eOwn_ap, eC_ap, e1_ap, e2_ap, e2g_ap, e3_ap, tst_ap, bAnd_ap, bOr_ap, bNot_ap, bYes_ap, vAnd_ap, vOr_ap, vNot_ap, tru_ap, eIf_ap, aNil_ap, aCons_ap, aStar_ap, eTup_ap, eLst_ap, eTupS_ap, eLstS_ap, eCall_ap, eRef_ap, eIsi_ap, eIsi2_ap, iSeq_ap, iEn_ap, iR1_ap, iR2_ap, iR3_ap, eLc_ap, sNil_ap, sSeq_ap, sFrz_ap, sExpr_ap, sRet_ap, sAsg_ap, sOwn_ap, sIf_ap, sFor_ap, sAug_ap, sApp_ap, sExt_ap, sRaise_ap, gN_ap, gT_ap, gsC_ap, gs0_ap, sq_rt, sq_ex, sq_bk, sq_ct, lp_rt, lp_ex, lp_bk, lp_ct, lp_nx, kS_rt, kS_ex, kS_nx, List.getElem?_cons_zero, List.getElem?_cons_succ, List.set_cons_zero, List.set_cons_succ, Option.bind_some, dLen_lst, dLen_tup, dLen_dct, dLen_str, dAdd_ii, dAdd_ss, dAdd_ll, dAdd_tt, dSub_ii, dMul_ii, dMul_li, dFdiv_ii, dMod_ii, dPow_ii, dNeg_i, dCmp_ii, dSum_l, dAll_l, dAny_l, dAbs_i, dInt_i, dInt_b, dList_l, dList_t, dTuple_l, dTuple_t, dMax2_ii, dMin2_ii, dAddI_ii, dRev_l, dIx_l, dIx_t, dIx_d, orFail_some, orFail_none, tru_non, ty_non, tru_bl, ty_bl, tru_int, ty_int, tru_str, ty_str, tru_lst, ty_lst, tru_tup, ty_tup, tru_dct, ty_dct, its_lst, items_lst, its_tup, items_tup, isL_l, dIsN, dNotN, if_true, if_false, Bool.not_true, Bool.not_false, true_and, and_true, wipeE, isTy_NoneType_bool, isTy_NoneType_int, isTy_NoneType_str, isTy_NoneType_list, isTy_NoneType_tuple, isTy_NoneType_dict, isTy_bool_bool, isTy_bool_int, isTy_bool_str, isTy_bool_list, isTy_bool_tuple, isTy_bool_dict, isTy_int_bool, isTy_int_int, isTy_int_str, isTy_int_list, isTy_int_tuple, isTy_int_dict, isTy_str_bool, isTy_str_int, isTy_str_str, isTy_str_list, isTy_str_tuple, isTy_str_dict, isTy_list_bool, isTy_list_int, isTy_list_str, isTy_list_list, isTy_list_tuple, isTy_list_dict, isTy_tuple_bool, isTy_tuple_int, isTy_tuple_str, isTy_tuple_list, isTy_tuple_tuple, isTy_tuple_dict, isTy_dict_bool, isTy_dict_int, isTy_dict_str, isTy_dict_list, isTy_dict_tuple, isTy_dict_dict, sMulti_ap, giveE, eSl_ap, pN_ap, pS_ap, dSl_l, dSl_t, isN_non, isN_bl, isN_int, isN_str, isN_lst, isN_tup, isN_dct, isN_fn, isN_row, Bool.or_true, Bool.or_false, Bool.true_or, Bool.false_or, reduceCtorEq, eq_self, ↓reduceIte]
        refine hP _ _ ⟨some v, .v (.int v), .v (.int (cntN ds t v : Nat)), .inr ⟨v, rfl, ?_, fun x hx => ?_⟩, rfl, rfl⟩
        · rw [tk]; simp
        · rw [tk] at hx
          simp at hx
          rw [hx]
          omega
      · unfold bestD
        simp only [ret_ap, bnd_ap, ask_ap, fail_ap, noE_ap, eName_ap, eOwn_ap, eC_ap, e1_ap, e2_ap, e2g_ap, e3_ap, tst_ap, bAnd_ap, bOr_ap, bNot_ap, bYes_ap, vAnd_ap, vOr_ap, vNot_ap, tru_ap, eIf_ap, aNil_ap, aCons_ap, aStar_ap, eTup_ap, eLst_ap, eTupS_ap, eLstS_ap, eCall_ap, eRef_ap, eIsi_ap, eIsi2_ap, iSeq_ap, iEn_ap, iR1_ap, iR2_ap, iR3_ap, eLc_ap, sNil_ap, sSeq_ap, sFrz_ap, sExpr_ap, sRet_ap, sAsg_ap, sOwn_ap, sIf_ap, sFor_ap, sAug_ap, sApp_ap, sExt_ap, sRaise_ap, gN_ap, gT_ap, gsC_ap, gs0_ap, sq_rt, sq_ex, sq_bk, sq_ct, lp_rt, lp_ex, lp_bk, lp_ct, lp_nx, kS_rt, kS_ex, kS_nx, List.getElem?_cons_zero, List.getElem?_cons_succ, List.set_cons_zero, List.set_cons_succ, Option.bind_some, dLen_lst, dLen_tup, dLen_dct, dLen_str, dAdd_ii, dAdd_ss, dAdd_ll, dAdd_tt, dSub_ii, dMul_ii, dMul_li, dFdiv_ii, dMod_ii, dPow_ii, dNeg_i, dCmp_ii, dSum_l, dAll_l, dAny_l, dAbs_i, dInt_i, dInt_b, dList_l, dList_t, dTuple_l, dTuple_t, dMax2_ii, dMin2_ii, dAddI_ii, dRev_l, dIx_l, dIx_t, dIx_d, orFail_some, orFail_none, tru_non, ty_non, tru_bl, ty_bl, tru_int, ty_int, tru_str, ty_str, tru_lst, ty_lst, tru_tup, ty_tup, tru_dct, ty_dct, its_lst, items_lst, its_tup, items_tup, isL_l, dIsN, dNotN, if_true, if_false, Bool.not_true, Bool.not_false, true_and, and_true, wipeE, isTy_NoneType_bool, isTy_NoneType_int, isTy_NoneType_str, isTy_NoneType_list, isTy_NoneType_tuple, isTy_NoneType_dict, isTy_bool_bool, isTy_bool_int, isTy_bool_str, isTy_bool_list, isTy_bool_tuple, isTy_bool_dict, isTy_int_bool, isTy_int_int, isTy_int_str, isTy_int_list, isTy_int_tuple, isTy_int_dict, isTy_str_bool, isTy_str_int, isTy_str_str, isTy_str_list, isTy_str_tuple, isTy_str_dict, isTy_list_bool, isTy_list_int, isTy_list_str, isTy_list_list, isTy_list_tuple, isTy_list_dict, isTy_tuple_bool, isTy_tuple_int, isTy_tuple_str, isTy_tuple_list, isTy_tuple_tuple, isTy_tuple_dict, isTy_dict_bool, isTy_dict_int, isTy_dict_str, isTy_dict_list, isTy_dict_tuple, isTy_dict_dict, sMulti_ap, giveE, eSl_ap, pN_ap, pS_ap, dSl_l, dSl_t, isN_non, isN_bl, isN_int, isN_str, isN_lst, isN_tup, isN_dct, isN_fn, isN_row, Bool.or_true, Bool.or_false, Bool.true_or, Bool.false_or, reduceCtorEq, eq_self, ↓reduceIte, a0]
        by_cases hc : cntN ds t d < cntN ds t v
        · rw [decide_eq_true (show (cntN ds t d : Int) < (cntN ds t v : Nat) by omega)]
          simp only [ret_ap, bnd_ap, ask_ap, fail_ap, noE_ap, eName_ap, eOwn_ap, eC_ap, e1_ap, e2_ap, e2g_ap, e3_ap, tst_ap, bAnd_ap, bOr_ap, bNot_ap, bYes_ap, vAnd_ap, vOr_ap, vNot_ap, tru_ap, eIf_ap, aNil_ap, aCons_ap, aStar_ap, eTup_ap, eLst_ap, eTupS_ap, eLstS_ap, eCall_ap, eRef_ap, eIsi_ap, eIsi2_ap, iSeq_ap, iEn_ap, iR1_ap, iR2_ap, iR3_ap, eLc_ap, sNil_ap, sSeq_ap, sFrz_ap, sExpr_ap, sRet_ap, sAsg_ap, sOwn_ap, sIf_ap, sFor_ap, sAug_ap, sApp_ap, sExt_ap, sRaise_ap, gN_ap, gT_ap, gsC_ap, gs0_ap, sq_rt, sq_ex, sq_bk, sq_ct, lp_rt, lp_ex, lp_bk, lp_ct, lp_nx, kS_rt, kS_ex, kS_nx, List.getElem?_cons_zero, List.getElem?_cons_succ, List.set_cons_zero, List.set_cons_succ, Option.bind_some, dLen_lst, dLen_tup, dLen_dct, dLen_str, dAdd_ii, dAdd_ss, dAdd_ll, dAdd_tt, dSub_ii, dMul_ii, dMul_li, dFdiv_ii, dMod_ii, dPow_ii, dNeg_i, dCmp_ii, dSum_l, dAll_l, dAny_l, dAbs_i, dInt_i, dInt_b, dList_l, dList_t, dTuple_l, dTuple_t, dMax2_ii, dMin2_ii, dAddI_ii, dRev_l, dIx_l, dIx_t, dIx_d, orFail_some, orFail_none, tru_non, ty_non, tru_bl, ty_bl, tru_int, ty_int, tru_str, ty_str, tru_lst, ty_lst, tru_tup, ty_tup, tru_dct, ty_dct, its_lst, items_lst, its_tup, items_tup, isL_l, dIsN, dNotN, if_true, if_false, Bool.not_true, Bool.not_false, true_and, and_true, wipeE, isTy_NoneType_bool, isTy_NoneType_int, isTy_NoneType_str, isTy_NoneType_list, isTy_NoneType_tuple, isTy_NoneType_dict, isTy_bool_bool, isTy_bool_int, isTy_bool_str, isTy_bool_list, isTy_bool_tuple, isTy_bool_dict, isTy_int_bool, isTy_int_int, isTy_int_str, isTy_int_list, isTy_int_tuple, isTy_int_dict, isTy_str_bool, isTy_str_int, isTy_str_str, isTy_str_list, isTy_str_tuple, isTy_str_dict, isTy_list_bool, isTy_list_int, isTy_list_str, isTy_list_list, isTy_list_tuple, isTy_list_dict, isTy_tuple_bool, isTy_tuple_int, isTy_tuple_str, isTy_tuple_list, isTy_tuple_tuple, isTy_tuple_dict, isTy_dict_bool, isTy_dict_int, isTy_dict_str, isTy_dict_list, isTy_dict_tuple, isTy_dict_dict, sMulti_ap, giveE, eSl_ap, pN_ap, pS_ap, dSl_l, dSl_t, isN_non, isN_bl, isN_int, isN_str, isN_lst, isN_tup, isN_dct, isN_fn, isN_row, Bool.or_true, Bool.or_false, Bool.true_or, Bool.false_or, reduceCtorEq, eq_self, ↓reduceIte]
          refine hP _ _ ⟨some v, .v (.int v), .v (.int (cntN ds t v : Nat)), .inr ⟨v, rfl, ?_, fun x hx => ?_⟩, rfl, rfl⟩
          · rw [tk]; simp
          · rw [tk] at hx
            rcases List.mem_append.mp hx with hx | hx
            · have := h2 x hx; omega
            · rw [List.mem_singleton.mp hx]; omega
        · rw [decide_eq_false (show ¬ (cntN ds t d : Int) < (cntN ds t v : Nat) by omega)]
          simp only [ret_ap, bnd_ap, ask_ap, fail_ap, noE_ap, eName_ap, eOwn_ap, eC_ap, e1_ap, e2_ap, e2g_ap, e3_ap, tst_ap, bAnd_ap, bOr_ap, bNot_ap, bYes_ap, vAnd_ap, vOr_ap, vNot_ap, tru_ap, eIf_ap, aNil_ap, aCons_ap, aStar_ap, eTup_ap, eLst_ap, eTupS_ap, eLstS_ap, eCall_ap, eRef_ap, eIsi_ap, eIsi2_ap, iSeq_ap, iEn_ap, iR1_ap, iR2_ap, iR3_ap, eLc_ap, sNil_ap, sSeq_ap, sFrz_ap, sExpr_ap, sRet_ap, sAsg_ap, sOwn_ap, sIf_ap, sFor_ap, sAug_ap, sApp_ap, sExt_ap, sRaise_ap, gN_ap, gT_ap, gsC_ap, gs0_ap, sq_rt, sq_ex, sq_bk, sq_ct, lp_rt, lp_ex, lp_bk, lp_ct, lp_nx, kS_rt, kS_ex, kS_nx, List.getElem?_cons_zero, List.getElem?_cons_succ, List.set_cons_zero, List.set_cons_succ, Option.bind_some, dLen_lst, dLen_tup, dLen_dct, dLen_str, dAdd_ii, dAdd_ss, dAdd_ll, dAdd_tt, dSub_ii, dMul_ii, dMul_li, dFdiv_ii, dMod_ii, dPow_ii, dNeg_i, dCmp_ii, dSum_l, dAll_l, dAny_l, dAbs_i, dInt_i, dInt_b, dList_l, dList_t, dTuple_l, dTuple_t, dMax2_ii, dMin2_ii, dAddI_ii, dRev_l, dIx_l, dIx_t, dIx_d, orFail_some, orFail_none, tru_non, ty_non, tru_bl, ty_bl, tru_int, ty_int, tru_str, ty_str, tru_lst, ty_lst, tru_tup, ty_tup, tru_dct, ty_dct, its_lst, items_lst, its_tup, items_tup, isL_l, dIsN, dNotN, if_true, if_false, Bool.not_true, Bool.not_false, true_and, and_true, wipeE, isTy_NoneType_bool, isTy_NoneType_int, isTy_NoneType_str, isTy_NoneType_list, isTy_NoneType_tuple, isTy_NoneType_dict, isTy_bool_bool, isTy_bool_int, isTy_bool_str, isTy_bool_list, isTy_bool_tuple, isTy_bool_dict, isTy_int_bool, isTy_int_int, isTy_int_str, isTy_int_list, isTy_int_tuple, isTy_int_dict, isTy_str_bool, isTy_str_int, isTy_str_str, isTy_str_list, isTy_str_tuple, isTy_str_dict, isTy_list_bool, isTy_list_int, isTy_list_str, isTy_list_list, isTy_list_tuple, isTy_list_dict, isTy_tuple_bool, isTy_tuple_int, isTy_tuple_str, isTy_tuple_list, isTy_tuple_tuple, isTy_tuple_dict, isTy_dict_bool, isTy_dict_int, isTy_dict_str, isTy_dict_list, isTy_dict_tuple, isTy_dict_dict, sMulti_ap, giveE, eSl_ap, pN_ap, pS_ap, dSl_l, dSl_t, isN_non, isN_bl, isN_int, isN_str, isN_lst, isN_tup, isN_dct, isN_fn, isN_row, Bool.or_true, Bool.or_false, Bool.true_or, Bool.false_or, reduceCtorEq, eq_self, ↓reduceIte]
          refine hP _ _ ⟨some d, .v (.int v), .v (.int (cntN ds t v : Nat)), .inr ⟨d, rfl, by rw [tk]; exact List.mem_append_left _ h1, fun x hx => ?_⟩, rfl, rfl⟩
          rw [tk] at hx
          rcases List.mem_append.mp hx with hx | hx
          · exact h2 x hx
          · rw [List.mem_singleton.mp hx]
            have : d ≤ v := by
              obtain ⟨j, hj⟩ := List.mem_iff_getElem?.mp h1
              rw [List.getElem?_take] at hj
              split at hj
              · have := F.le (show j ≤ i by omega) hlt
                rw [List.getD_eq_getElem?_getD, List.getD_eq_getElem?_getD, hj, q] at this
                exact this
              · cases hj
            omega
  · rintro e w ⟨o, b14, b15, ho, rfl, rfl⟩
    rw [List.length_map] at ho
    simp only [ret_ap, bnd_ap, ask_ap, fail_ap, noE_ap, eName_ap, eOwn_ap, eC_ap, e1_ap, e2_ap, e2g_ap, e3_ap, tst_ap, bAnd_ap, bOr_ap, bNot_ap, bYes_ap, vAnd_ap, vOr_ap, vNot_ap, tru_ap, eIf_ap, aNil_ap, aCons_ap, aStar_ap, eTup_ap, eLst_ap, eTupS_ap, eLstS_ap, eCall_ap, eRef_ap, eIsi_ap, eIsi2_ap, iSeq_ap, iEn_ap, iR1_ap, iR2_ap, iR3_ap, eLc_ap, sNil_ap, sSeq_ap, sFrz_ap, sExpr_ap, sRet_ap, sAsg_ap, sOwn_ap, sIf_ap, sFor_ap, sAug_ap, sApp_ap, sExt_ap, sRaise_ap, gN_ap, gT_ap, gsC_ap, gs0_ap, sq_rt, sq_ex, sq_bk, sq_ct, lp_rt, lp_ex, lp_bk, lp_ct, lp_nx, kS_rt, kS_ex, kS_nx, List.getElem?_cons_zero, List.getElem?_cons_succ, List.set_cons_zero, List.set_cons_succ, Option.bind_some, dLen_lst, dLen_tup, dLen_dct, dLen_str, dAdd_ii, dAdd_ss, dAdd_ll, dAdd_tt, dSub_ii, dMul_ii, dMul_li, dFdiv_ii, dMod_ii, dPow_ii, dNeg_i, dCmp_ii, dSum_l, dAll_l, dAny_l, dAbs_i, dInt_i, dInt_b, dList_l, dList_t, dTuple_l, dTuple_t, dMax2_ii, dMin2_ii, dAddI_ii, dRev_l, dIx_l, dIx_t, dIx_d, orFail_some, orFail_none, tru_non, ty_non, tru_bl, ty_bl, tru_int, ty_int, tru_str, ty_str, tru_lst, ty_lst, tru_tup, ty_tup, tru_dct, ty_dct, its_lst, items_lst, its_tup, items_tup, isL_l, dIsN, dNotN, if_true, if_false, Bool.not_true, Bool.not_false, true_and, and_true, wipeE, isTy_NoneType_bool, isTy_NoneType_int, isTy_NoneType_str, isTy_NoneType_list, isTy_NoneType_tuple, isTy_NoneType_dict, isTy_bool_bool, isTy_bool_int, isTy_bool_str, isTy_bool_list, isTy_bool_tuple, isTy_bool_dict, isTy_int_bool, isTy_int_int, isTy_int_str, isTy_int_list, isTy_int_tuple, isTy_int_dict, isTy_str_bool, isTy_str_int, isTy_str_str, isTy_str_list, isTy_str_tuple, isTy_str_dict, isTy_list_bool, isTy_list_int, isTy_list_str, isTy_list_list, isTy_list_tuple, isTy_list_dict, isTy_tuple_bool, isTy_tuple_int, isTy_tuple_str, isTy_tuple_list, isTy_tuple_tuple, isTy_tuple_dict, isTy_dict_bool, isTy_dict_int, isTy_dict_str, isTy_dict_list, isTy_dict_tuple, isTy_dict_dict, sMulti_ap, giveE, eSl_ap, pN_ap, pS_ap, dSl_l, dSl_t, isN_non, isN_bl, isN_int, isN_str, isN_lst, isN_tup, isN_dct, isN_fn, isN_row, Bool.or_true, Bool.or_false, Bool.true_or, Bool.false_or, reduceCtorEq, eq_self, ↓reduceIte, sq_nx]
    refine h o b14 b15 ?_
    rcases ho with ⟨rfl, h0⟩ | ⟨d, rfl, h1, h2⟩
    · exact .inl ⟨rfl, List.length_eq_zero_iff.mp h0⟩
    · rw [List.take_length] at h1 h2
      exact .inr ⟨d, rfl, h1, h2⟩
end
end K19

set_option maxRecDepth 100000
set_option maxHeartbeats 1000000
namespace K19
open PySem PySem.Spec PyProof.Rows L2 Y
open PySem.W (AllAlike Sortable dataLe dataLt)
section
variable {rest : SM} {ds : List Int} {t : Int} {p : Nat} {a2 a3 b9 b10 b11 b12 b13 b14 b15 b16 b17 b18 : Sl}
abbrev Bst (ds : List Int) (t : Int) (o : Option Int) : Prop := o = none ∧ ds = [] ∨ ∃ d, o = some d ∧ IsBest ds t d
theorem law9 (F : Days ds) (h1 : 1 ≤ t) (h2 : t ≤ 12) {o : Option Int} (ho : Bst ds t o) (h : rest (eA ds t p a2 a3 b9 b10 b11 b12 (.v (bestD ds t o)) b14 b15 b16 b17 b18) [] KL) : sSeq (sIf (bNot (tru (eCall (c_law_alike 8) (aCons (eCall c_busy_days (aCons (eName 4) (aCons (eName 5) aNil))) (aCons (eIf (tst (e2 dIsN (eName 13) (eC .non))) (eC .non) (eTup (aCons (e2 dIx (eName 13) (eC (.int 1))) (aCons (e2 dSub (e2 dAdd (e2 dIx (eName 13) (eC (.int 1))) (eName 5)) (eC (.int 1))) aNil)))) aNil))))) (sRet (eC (.bl false))) sNil) rest (eA ds t p a2 a3 b9 b10 b11 b12 (.v (bestD ds t o)) b14 b15 b16 b17 b18) [] KL := by
  have a1 : ∀ x y : D, atI [x, y] 1 = some y := fun _ _ => rfl
  rcases ho with ⟨rfl, h0⟩ | ⟨d, rfl, hd⟩
  · unfold bestD at h ⊢
    simp only [ret_ap, bnd_ap, ask_ap, fail_ap, noE_ap, eName_ap, eOwn_ap, eC_ap, e1_ap, e2_ap, e2g_ap, e3_ap, tst_ap, bAnd_ap, bOr_ap, bNot_ap, bYes_ap, vAnd_ap, vOr_ap, vNot_ap, tru_ap, eIf_ap, aNil_ap, aCons_ap, aStar_ap, eTup_ap, eLst_ap, eTupS_ap, eLstS_ap, eCall_ap, eRef_ap, eIsi_ap, eIsi2_ap, iSeq_ap, iEn_ap, iR1_ap, iR2_ap, iR3_ap, eLc_ap, sNil_ap, sSeq_ap, sFrz_ap, sExpr_ap, sRet_ap, sAsg_ap, sOwn_ap, sIf_ap, sFor_ap, sAug_ap, sApp_ap, sExt_ap, sRaise_ap, gN_ap, gT_ap, gsC_ap, gs0_ap, sq_rt, sq_ex, sq_bk, sq_ct, lp_rt, lp_ex, lp_bk, lp_ct, lp_nx, kS_rt, kS_ex, kS_nx, List.getElem?_cons_zero, List.getElem?_cons_succ, List.set_cons_zero, List.set_cons_succ, Option.bind_some, dLen_lst, dLen_tup, dLen_dct, dLen_str, dAdd_ii, dAdd_ss, dAdd_ll, dAdd_tt, dSub_ii, dMul_ii, dMul_li, dFdiv_ii, dMod_ii, dPow_ii, dNeg_i, dCmp_ii, dSum_l, dAll_l, dAny_l, dAbs_i, dInt_i, dInt_b, dList_l, dList_t, dTuple_l, dTuple_t, dMax2_ii, dMin2_ii, dAddI_ii, dRev_l, dIx_l, dIx_t, dIx_d, orFail_some, orFail_none, tru_non, ty_non, tru_bl, ty_bl, tru_int, ty_int, tru_str, ty_str, tru_lst, ty_lst, tru_tup, ty_tup, tru_dct, ty_dct, its_lst, items_lst, its_tup, items_tup, isL_l, dIsN, dNotN, if_true, if_false, Bool.not_true, Bool.not_false, true_and, and_true, wipeE, isTy_NoneType_bool, isTy_NoneType_int, isTy_NoneType_str, isTy_NoneType_list, isTy_NoneType_tuple, isTy_NoneType_dict, isTy_bool_bool, isTy_bool_int, isTy_bool_str, isTy_bool_list, isTy_bool_tuple, isTy_bool_dict, isTy_int_bool, isTy_int_int, isTy_int_str, isTy_int_list, isTy_int_tuple, isTy_int_dict, isTy_str_bool, isTy_str_int, isTy_str_str, isTy_str_list, isTy_str_tuple, isTy_str_dict, isTy_list_bool, isTy_list_int, isTy_list_str, isTy_list_list, isTy_list_tuple, isTy_list_dict, isTy_tuple_bool, isTy_tuple_int, isTy_tuple_str, isTy_tuple_list, isTy_tuple_tuple, isTy_tuple_dict, isTy_dict_bool, isTy_dict_int, isTy_dict_str, isTy_dict_list, isTy_dict_tuple, isTy_dict_dict, sMulti_ap, giveE, eSl_ap, pN_ap, pS_ap, dSl_l, dSl_t, isN_non, isN_bl, isN_int, isN_str, isN_lst, isN_tup, isN_dct, isN_fn, isN_row, Bool.or_true, Bool.or_false, Bool.true_or, Bool.false_or, reduceCtorEq, eq_self, ↓reduceIte]
    refine busy_days_ap F (.inl rfl) h1 (by omega) (fun d hd => ?_) fun _ => ?_
    · have := hd.mem
      rw [h0] at this
      cases this
    · refine alike_self 7 .non rfl ?_
      simp only [ret_ap, bnd_ap, ask_ap, fail_ap, noE_ap, eName_ap, eOwn_ap, eC_ap, e1_ap, e2_ap, e2g_ap, e3_ap, tst_ap, bAnd_ap, bOr_ap, bNot_ap, bYes_ap, vAnd_ap, vOr_ap, vNot_ap, tru_ap, eIf_ap, aNil_ap, aCons_ap, aStar_ap, eTup_ap, eLst_ap, eTupS_ap, eLstS_ap, eCall_ap, eRef_ap, eIsi_ap, eIsi2_ap, iSeq_ap, iEn_ap, iR1_ap, iR2_ap, iR3_ap, eLc_ap, sNil_ap, sSeq_ap, sFrz_ap, sExpr_ap, sRet_ap, sAsg_ap, sOwn_ap, sIf_ap, sFor_ap, sAug_ap, sApp_ap, sExt_ap, sRaise_ap, gN_ap, gT_ap, gsC_ap, gs0_ap, sq_rt, sq_ex, sq_bk, sq_ct, lp_rt, lp_ex, lp_bk, lp_ct, lp_nx, kS_rt, kS_ex, kS_nx, List.getElem?_cons_zero, List.getElem?_cons_succ, List.set_cons_zero, List.set_cons_succ, Option.bind_some, dLen_lst, dLen_tup, dLen_dct, dLen_str, dAdd_ii, dAdd_ss, dAdd_ll, dAdd_tt, dSub_ii, dMul_ii, dMul_li, dFdiv_ii, dMod_ii, dPow_ii, dNeg_i, dCmp_ii, dSum_l, dAll_l, dAny_l, dAbs_i, dInt_i, dInt_b, dList_l, dList_t, dTuple_l, dTuple_t, dMax2_ii, dMin2_ii, dAddI_ii, dRev_l, dIx_l, dIx_t, dIx_d, orFail_some, orFail_none, tru_non, ty_non, tru_bl, ty_bl, tru_int, ty_int, tru_str, ty_str, tru_lst, ty_lst, tru_tup, ty_tup, tru_dct, ty_dct, its_lst, items_lst, its_tup, items_tup, isL_l, dIsN, dNotN, if_true, if_false, Bool.not_true, Bool.not_false, true_and, and_true, wipeE, isTy_NoneType_bool, isTy_NoneType_int, isTy_NoneType_str, isTy_NoneType_list, isTy_NoneType_tuple, isTy_NoneType_dict, isTy_bool_bool, isTy_bool_int, isTy_bool_str, isTy_bool_list, isTy_bool_tuple, isTy_bool_dict, isTy_int_bool, isTy_int_int, isTy_int_str, isTy_int_list, isTy_int_tuple, isTy_int_dict, isTy_str_bool, isTy_str_int, isTy_str_str, isTy_str_list, isTy_str_tuple, isTy_str_dict, isTy_list_bool, isTy_list_int, isTy_list_str, isTy_list_list, isTy_list_tuple, isTy_list_dict, isTy_tuple_bool, isTy_tuple_int, isTy_tuple_str, isTy_tuple_list, isTy_tuple_tuple, isTy_tuple_dict, isTy_dict_bool, isTy_dict_int, isTy_dict_str, isTy_dict_list, isTy_dict_tuple, isTy_dict_dict, sMulti_ap, giveE, eSl_ap, pN_ap, pS_ap, dSl_l, dSl_t, isN_non, isN_bl, isN_int, isN_str, isN_lst, isN_tup, isN_dct, isN_fn, isN_row, Bool.or_true, Bool.or_false, Bool.true_or, Bool.false_or, reduceCtorEq, eq_self, ↓reduceIte, sq_nx]
      exact h
  · unfold bestD at h ⊢
    simp only [ret_ap, bnd_ap, ask_ap, fail_ap, noE_ap, eName_ap, eOwn_ap, eC_ap, e1_ap, e2_ap, e2g_ap, e3_ap, tst_ap, bAnd_ap, bOr_ap, bNot_ap, bYes_ap, vAnd_ap, vOr_ap, vNot_ap, tru_ap, eIf_ap, aNil_ap, aCons_ap, aStar_ap, eTup_ap, eLst_ap, eTupS_ap, eLstS_ap, eCall_ap, eRef_ap, eIsi_ap, eIsi2_ap, iSeq_ap, iEn_ap, iR1_ap, iR2_ap, iR3_ap, eLc_ap, sNil_ap, sSeq_ap, sFrz_ap, sExpr_ap, sRet_ap, sAsg_ap, sOwn_ap, sIf_ap, sFor_ap, sAug_ap, sApp_ap, sExt_ap, sRaise_ap, gN_ap, gT_ap, gsC_ap, gs0_ap, sq_rt, sq_ex, sq_bk, sq_ct, lp_rt, lp_ex, lp_bk, lp_ct, lp_nx, kS_rt, kS_ex, kS_nx, List.getElem?_cons_zero, List.getElem?_cons_succ, List.set_cons_zero, List.set_cons_succ, Option.bind_some, dLen_lst, dLen_tup, dLen_dct, dLen_str, dAdd_ii, dAdd_ss, dAdd_ll, dAdd_tt, dSub_ii, dMul_ii, dMul_li, dFdiv_ii, dMod_ii, dPow_ii, dNeg_i, dCmp_ii, dSum_l, dAll_l, dAny_l, dAbs_i, dInt_i, dInt_b, dList_l, dList_t, dTuple_l, dTuple_t, dMax2_ii, dMin2_ii, dAddI_ii, dRev_l, dIx_l, dIx_t, dIx_d, orFail_some, orFail_none, tru_non, ty_non, tru_bl, ty_bl, tru_int, ty_int, tru_str, ty_str, tru_lst, ty_lst, tru_tup, ty_tup, tru_dct, ty_dct, its_lst, items_lst, its_tup, items_tup, isL_l, dIsN, dNotN, if_true, if_false, Bool.not_true, Bool.not_false, true_and, and_true, wipeE, isTy_NoneType_bool, isTy_NoneType_int, isTy_NoneType_str, isTy_NoneType_list, isTy_NoneType_tuple, isTy_NoneType_dict, isTy_bool_bool, isTy_bool_int, isTy_bool_str, isTy_bool_list, isTy_bool_tuple, isTy_bool_dict, isTy_int_bool, isTy_int_int, isTy_int_str, isTy_int_list, isTy_int_tuple, isTy_int_dict, isTy_str_bool, isTy_str_int, isTy_str_str, isTy_str_list, isTy_str_tuple, isTy_str_dict, isTy_list_bool, isTy_list_int, isTy_list_str, isTy_list_list, isTy_list_tuple, isTy_list_dict, isTy_tuple_bool, isTy_tuple_int, isTy_tuple_str, isTy_tuple_list, isTy_tuple_tuple, isTy_tuple_dict, isTy_dict_bool, isTy_dict_int, isTy_dict_str, isTy_dict_list, isTy_dict_tuple, isTy_dict_dict, sMulti_ap, giveE, eSl_ap, pN_ap, pS_ap, dSl_l, dSl_t, isN_non, isN_bl, isN_int, isN_str, isN_lst, isN_tup, isN_dct, isN_fn, isN_row, Bool.or_true, Bool.or_false, Bool.true_or, Bool.false_or, reduceCtorEq, eq_self, ↓reduceIte, a1]
    refine busy_days_ap F (.inl rfl) h1 (by omega) (fun d' hd' => ?_) fun z => ?_
    · rw [hd'.uniq hd]
      refine alike_self 7 _ rfl ?_
      simp only [ret_ap, bnd_ap, ask_ap, fail_ap, noE_ap, eName_ap, eOwn_ap, eC_ap, e1_ap, e2_ap, e2g_ap, e3_ap, tst_ap, bAnd_ap, bOr_ap, bNot_ap, bYes_ap, vAnd_ap, vOr_ap, vNot_ap, tru_ap, eIf_ap, aNil_ap, aCons_ap, aStar_ap, eTup_ap, eLst_ap, eTupS_ap, eLstS_ap, eCall_ap, eRef_ap, eIsi_ap, eIsi2_ap, iSeq_ap, iEn_ap, iR1_ap, iR2_ap, iR3_ap, eLc_ap, sNil_ap, sSeq_ap, sFrz_ap, sExpr_ap, sRet_ap, sAsg_ap, sOwn_ap, sIf_ap, sFor_ap, sAug_ap, sApp_ap, sExt_ap, sRaise_ap, gN_ap, gT_ap, gsC_ap, gs0_ap, sq_rt, sq_ex, sq_bk, sq_ct, lp_rt, lp_ex, lp_bk, lp_ct, lp_nx, kS_rt, kS_ex, kS_nx, List.getElem?_cons_zero, List.getElem?_cons_succ, List.set_cons_zero, List.set_cons_succ, Option.bind_some, dLen_lst, dLen_tup, dLen_dct, dLen_str, dAdd_ii, dAdd_ss, dAdd_ll, dAdd_tt, dSub_ii, dMul_ii, dMul_li, dFdiv_ii, dMod_ii, dPow_ii, dNeg_i, dCmp_ii, dSum_l, dAll_l, dAny_l, dAbs_i, dInt_i, dInt_b, dList_l, dList_t, dTuple_l, dTuple_t, dMax2_ii, dMin2_ii, dAddI_ii, dRev_l, dIx_l, dIx_t, dIx_d, orFail_some, orFail_none, tru_non, ty_non, tru_bl, ty_bl, tru_int, ty_int, tru_str, ty_str, tru_lst, ty_lst, tru_tup, ty_tup, tru_dct, ty_dct, its_lst, items_lst, its_tup, items_tup, isL_l, dIsN, dNotN, if_true, if_false, Bool.not_true, Bool.not_false, true_and, and_true, wipeE, isTy_NoneType_bool, isTy_NoneType_int, isTy_NoneType_str, isTy_NoneType_list, isTy_NoneType_tuple, isTy_NoneType_dict, isTy_bool_bool, isTy_bool_int, isTy_bool_str, isTy_bool_list, isTy_bool_tuple, isTy_bool_dict, isTy_int_bool, isTy_int_int, isTy_int_str, isTy_int_list, isTy_int_tuple, isTy_int_dict, isTy_str_bool, isTy_str_int, isTy_str_str, isTy_str_list, isTy_str_tuple, isTy_str_dict, isTy_list_bool, isTy_list_int, isTy_list_str, isTy_list_list, isTy_list_tuple, isTy_list_dict, isTy_tuple_bool, isTy_tuple_int, isTy_tuple_str, isTy_tuple_list, isTy_tuple_tuple, isTy_tuple_dict, isTy_dict_bool, isTy_dict_int, isTy_dict_str, isTy_dict_list, isTy_dict_tuple, isTy_dict_dict, sMulti_ap, giveE, eSl_ap, pN_ap, pS_ap, dSl_l, dSl_t, isN_non, isN_bl, isN_int, isN_str, isN_lst, isN_tup, isN_dct, isN_fn, isN_row, Bool.or_true, Bool.or_false, Bool.true_or, Bool.false_or, reduceCtorEq, eq_self, ↓reduceIte, sq_nx]
      exact h
    · have := hd.mem
      rw [z] at this
      cases this
theorem law10 (F : Days ds) (h1 : 1 ≤ t) (h2 : t ≤ 12) {o : Option Int} (ho : Bst ds t o) (h : rest (eA ds t p a2 a3 b9 b10 b11 b12 (.v (bestD ds t o)) b14 b15 b16 b17 b18) [] KL) : sSeq (sIf (bAnd (tst (e2 dNotN (eName 13) (eC .non))) (tst (e2 dNe (eCall c_spares_needed (aCons (eName 4) (aCons (eName 5) aNil))) (e2 dIx (eName 13) (eC (.int 0)))))) (sRet (eC (.bl false))) sNil) rest (eA ds t p a2 a3 b9 b10 b11 b12 (.v (bestD ds t o)) b14 b15 b16 b17 b18) [] KL := by
  have a0 : ∀ x y : D, atI [x, y] 0 = some x := fun _ _ => rfl
  rcases ho with ⟨rfl, h0⟩ | ⟨d, rfl, hd⟩
  · unfold bestD at h ⊢
    simp only [ret_ap, bnd_ap, ask_ap, fail_ap, noE_ap, eName_ap, eOwn_ap, eC_ap, e1_ap, e2_ap, e2g_ap, e3_ap, tst_ap, bAnd_ap, bOr_ap, bNot_ap, bYes_ap, vAnd_ap, vOr_ap, vNot_ap, tru_ap, eIf_ap, aNil_ap, aCons_ap, aStar_ap, eTup_ap, eLst_ap, eTupS_ap, eLstS_ap, eCall_ap, eRef_ap, eIsi_ap, eIsi2_ap, iSeq_ap, iEn_ap, iR1_ap, iR2_ap, iR3_ap, eLc_ap, sNil_ap, sSeq_ap, sFrz_ap, sExpr_ap, sRet_ap, sAsg_ap, sOwn_ap, sIf_ap, sFor_ap, sAug_ap, sApp_ap, sExt_ap, sRaise_ap, gN_ap, gT_ap, gsC_ap, gs0_ap, sq_rt, sq_ex, sq_bk, sq_ct, lp_rt, lp_ex, lp_bk, lp_ct, lp_nx, kS_rt, kS_ex, kS_nx, List.getElem?_cons_zero, List.getElem?_cons_succ, List.set_cons_zero, List.set_cons_succ, Option.bind_some, dLen_lst, dLen_tup, dLen_dct, dLen_str, dAdd_ii, dAdd_ss, dAdd_ll, dAdd_tt, dSub_ii, dMul_ii, dMul_li, dFdiv_ii, dMod_ii, dPow_ii, dNeg_i, dCmp_ii, dSum_l, dAll_l, dAny_l, dAbs_i, dInt_i, dInt_b, dList_l, dList_t, dTuple_l, dTuple_t, dMax2_ii, dMin2_ii, dAddI_ii, dRev_l, dIx_l, dIx_t, dIx_d, orFail_some, orFail_none, tru_non, ty_non, tru_bl, ty_bl, tru_int, ty_int, tru_str, ty_str, tru_lst, ty_lst, tru_tup, ty_tup, tru_dct, ty_dct, its_lst, items_lst, its_tup, items_tup, isL_l, dIsN, dNotN, if_true, if_false, Bool.not_true, Bool.not_false, true_and, and_true, wipeE, isTy_NoneType_bool, isTy_NoneType_int, isTy_NoneType_str, isTy_NoneType_list, isTy_NoneType_tuple, isTy_NoneType_dict, isTy_bool_bool, isTy_bool_int, isTy_bool_str, isTy_bool_list, isTy_bool_tuple, isTy_bool_dict, isTy_int_bool, isTy_int_int, isTy_int_str, isTy_int_list, isTy_int_tuple, isTy_int_dict, isTy_str_bool, isTy_str_int, isTy_str_str, isTy_str_list, isTy_str_tuple, isTy_str_dict, isTy_list_bool, isTy_list_int, isTy_list_str, isTy_list_list, isTy_list_tuple, isTy_list_dict, isTy_tuple_bool, isTy_tuple_int, isTy_tuple_str, isTy_tuple_list, isTy_tuple_tuple, isTy_tuple_dict, isTy_dict_bool, isTy_dict_int, isTy_dict_str, isTy_dict_list, isTy_dict_tuple, isTy_dict_dict, sMulti_ap, giveE, eSl_ap, pN_ap, pS_ap, dSl_l, dSl_t, isN_non, isN_bl, isN_int, isN_str, isN_lst, isN_tup, isN_dct, isN_fn, isN_row, Bool.or_true, Bool.or_false, Bool.true_or, Bool.false_or, reduceCtorEq, eq_self, ↓reduceIte, sq_nx, dNotN]
    exact h
  · unfold bestD at h ⊢
    simp only [ret_ap, bnd_ap, ask_ap, fail_ap, noE_ap, eName_ap, eOwn_ap, eC_ap, e1_ap, e2_ap, e2g_ap, e3_ap, tst_ap, bAnd_ap, bOr_ap, bNot_ap, bYes_ap, vAnd_ap, vOr_ap, vNot_ap, tru_ap, eIf_ap, aNil_ap, aCons_ap, aStar_ap, eTup_ap, eLst_ap, eTupS_ap, eLstS_ap, eCall_ap, eRef_ap, eIsi_ap, eIsi2_ap, iSeq_ap, iEn_ap, iR1_ap, iR2_ap, iR3_ap, eLc_ap, sNil_ap, sSeq_ap, sFrz_ap, sExpr_ap, sRet_ap, sAsg_ap, sOwn_ap, sIf_ap, sFor_ap, sAug_ap, sApp_ap, sExt_ap, sRaise_ap, gN_ap, gT_ap, gsC_ap, gs0_ap, sq_rt, sq_ex, sq_bk, sq_ct, lp_rt, lp_ex, lp_bk, lp_ct, lp_nx, kS_rt, kS_ex, kS_nx, List.getElem?_cons_zero, List.getElem?_cons_succ, List.set_cons_zero, List.set_cons_succ, Option.bind_some, dLen_lst, dLen_tup, dLen_dct, dLen_str, dAdd_ii, dAdd_ss, dAdd_ll, dAdd_tt, dSub_ii, dMul_ii, dMul_li, dFdiv_ii, dMod_ii, dPow_ii, dNeg_i, dCmp_ii, dSum_l, dAll_l, dAny_l, dAbs_i, dInt_i, dInt_b, dList_l, dList_t, dTuple_l, dTuple_t, dMax2_ii, dMin2_ii, dAddI_ii, dRev_l, dIx_l, dIx_t, dIx_d, orFail_some, orFail_none, tru_non, ty_non, tru_bl, ty_bl, tru_int, ty_int, tru_str, ty_str, tru_lst, ty_lst, tru_tup, ty_tup, tru_dct, ty_dct, its_lst, items_lst, its_tup, items_tup, isL_l, dIsN, dNotN, if_true, if_false, Bool.not_true, Bool.not_false, true_and, and_true, wipeE, isTy_NoneType_bool, isTy_NoneType_int, isTy_NoneType_str, isTy_NoneType_list, isTy_NoneType_tuple, isTy_NoneType_dict, isTy_bool_bool, isTy_bool_int, isTy_bool_str, isTy_bool_list, isTy_bool_tuple, isTy_bool_dict, isTy_int_bool, isTy_int_int, isTy_int_str, isTy_int_list, isTy_int_tuple, isTy_int_dict, isTy_str_bool, isTy_str_int, isTy_str_str, isTy_str_list, isTy_str_tuple, isTy_str_dict, isTy_list_bool, isTy_list_int, isTy_list_str, isTy_list_list, isTy_list_tuple, isTy_list_dict, isTy_tuple_bool, isTy_tuple_int, isTy_tuple_str, isTy_tuple_list, isTy_tuple_tuple, isTy_tuple_dict, isTy_dict_bool, isTy_dict_int, isTy_dict_str, isTy_dict_list, isTy_dict_tuple, isTy_dict_dict, sMulti_ap, giveE, eSl_ap, pN_ap, pS_ap, dSl_l, dSl_t, isN_non, isN_bl, isN_int, isN_str, isN_lst, isN_tup, isN_dct, isN_fn, isN_row, Bool.or_true, Bool.or_false, Bool.true_or, Bool.false_or, reduceCtorEq, eq_self, ↓reduceIte, dNotN]
    refine spares_needed_ap F (.inl rfl) h1 (by omega) ?_
    rw [max_best F h1 hd]
    simp only [ret_ap, bnd_ap, ask_ap, fail_ap, noE_ap, eName_ap, eOwn_ap, eC_ap, e1_ap, e2_ap, e2g_ap, e3_ap, tst_ap, bAnd_ap, bOr_ap, bNot_ap, bYes_ap, vAnd_ap, vOr_ap, vNot_ap, tru_ap, eIf_ap, aNil_ap, aCons_ap, aStar_ap, eTup_ap, eLst_ap, eTupS_ap, eLstS_ap, eCall_ap, eRef_ap, eIsi_ap, eIsi2_ap, iSeq_ap, iEn_ap, iR1_ap, iR2_ap, iR3_ap, eLc_ap, sNil_ap, sSeq_ap, sFrz_ap, sExpr_ap, sRet_ap, sAsg_ap, sOwn_ap, sIf_ap, sFor_ap, sAug_ap, sApp_ap, sExt_ap, sRaise_ap, gN_ap, gT_ap, gsC_ap, gs0_ap, sq_rt, sq_ex, sq_bk, sq_ct, lp_rt, lp_ex, lp_bk, lp_ct, lp_nx, kS_rt, kS_ex, kS_nx, List.getElem?_cons_zero, List.getElem?_cons_succ, List.set_cons_zero, List.set_cons_succ, Option.bind_some, dLen_lst, dLen_tup, dLen_dct, dLen_str, dAdd_ii, dAdd_ss, dAdd_ll, dAdd_tt, dSub_ii, dMul_ii, dMul_li, dFdiv_ii, dMod_ii, dPow_ii, dNeg_i, dCmp_ii, dSum_l, dAll_l, dAny_l, dAbs_i, dInt_i, dInt_b, dList_l, dList_t, dTuple_l, dTuple_t, dMax2_ii, dMin2_ii, dAddI_ii, dRev_l, dIx_l, dIx_t, dIx_d, orFail_some, orFail_none, tru_non, ty_non, tru_bl, ty_bl, tru_int, ty_int, tru_str, ty_str, tru_lst, ty_lst, tru_tup, ty_tup, tru_dct, ty_dct, its_lst, items_lst, its_tup, items_tup, isL_l, dIsN, dNotN, if_true, if_false, Bool.not_true, Bool.not_false, true_and, and_true, wipeE, isTy_NoneType_bool, isTy_NoneType_int, isTy_NoneType_str, isTy_NoneType_list, isTy_NoneType_tuple, isTy_NoneType_dict, isTy_bool_bool, isTy_bool_int, isTy_bool_str, isTy_bool_list, isTy_bool_tuple, isTy_bool_dict, isTy_int_bool, isTy_int_int, isTy_int_str, isTy_int_list, isTy_int_tuple, isTy_int_dict, isTy_str_bool, isTy_str_int, isTy_str_str, isTy_str_list, isTy_str_tuple, isTy_str_dict, isTy_list_bool, isTy_list_int, isTy_list_str, isTy_list_list, isTy_list_tuple, isTy_list_dict, isTy_tuple_bool, isTy_tuple_int, isTy_tuple_str, isTy_tuple_list, isTy_tuple_tuple, isTy_tuple_dict, isTy_dict_bool, isTy_dict_int, isTy_dict_str, isTy_dict_list, isTy_dict_tuple, isTy_dict_dict, sMulti_ap, giveE, eSl_ap, pN_ap, pS_ap, dSl_l, dSl_t, isN_non, isN_bl, isN_int, isN_str, isN_lst, isN_tup, isN_dct, isN_fn, isN_row, Bool.or_true, Bool.or_false, Bool.true_or, Bool.false_or, reduceCtorEq, eq_self, ↓reduceIte, sq_nx, a0, dEqB_int', decide_true]
    exact h
def OddOk (odd : D) : Prop := odd ∈ [D.int 0, .int 1001, .non, .bl true]
theorem law11 (h : ∀ odd, OddOk odd → rest (eA ds t p a2 a3 b9 b10 b11 b12 b13 b14 b15 (.v odd) b17 b18) [] KL) : sSeq (sAsg (gN 16) (eCall c_law_pick (aCons (eName 1) (aCons (eLst (aCons (eC (.int 0)) (aCons (eC (.int 1001)) (aCons (eC .non) (aCons (eC (.bl true)) aNil))))) aNil)))) rest (eA ds t p a2 a3 b9 b10 b11 b12 b13 b14 b15 .no b17 b18) [] KL := by
  simp only [ret_ap, bnd_ap, ask_ap, fail_ap, noE_ap, eName_ap, eOwn_ap, eC_ap, e1_ap, e2_ap, e2g_ap, e3_ap, tst_ap, bAnd_ap, bOr_ap, bNot_ap, bYes_ap, vAnd_ap, vOr_ap, vNot_ap, tru_ap, eIf_ap, aNil_ap, aCons_ap, aStar_ap, eTup_ap, eLst_ap, eTupS_ap, eLstS_ap, eCall_ap, eRef_ap, eIsi_ap, eIsi2_ap, iSeq_ap, iEn_ap, iR1_ap, iR2_ap, iR3_ap, eLc_ap, sNil_ap, sSeq_ap, sFrz_ap, sExpr_ap, sRet_ap, sAsg_ap, sOwn_ap, sIf_ap, sFor_ap, sAug_ap, sApp_ap, sExt_ap, sRaise_ap, gN_ap, gT_ap, gsC_ap, gs0_ap, sq_rt, sq_ex, sq_bk, sq_ct, lp_rt, lp_ex, lp_bk, lp_ct, lp_nx, kS_rt, kS_ex, kS_nx, List.getElem?_cons_zero, List.getElem?_cons_succ, List.set_cons_zero, List.set_cons_succ, Option.bind_some, dLen_lst, dLen_tup, dLen_dct, dLen_str, dAdd_ii, dAdd_ss, dAdd_ll, dAdd_tt, dSub_ii, dMul_ii, dMul_li, dFdiv_ii, dMod_ii, dPow_ii, dNeg_i, dCmp_ii, dSum_l, dAll_l, dAny_l, dAbs_i, dInt_i, dInt_b, dList_l, dList_t, dTuple_l, dTuple_t, dMax2_ii, dMin2_ii, dAddI_ii, dRev_l, dIx_l, dIx_t, dIx_d, orFail_some, orFail_none, tru_non, ty_non, tru_bl, ty_bl, tru_int, ty_int, tru_str, ty_str, tru_lst, ty_lst, tru_tup, ty_tup, tru_dct, ty_dct, its_lst, items_lst, its_tup, items_tup, isL_l, dIsN, dNotN, if_true, if_false, Bool.not_true, Bool.not_false, true_and, and_true, wipeE, isTy_NoneType_bool, isTy_NoneType_int, isTy_NoneType_str, isTy_NoneType_list, isTy_NoneType_tuple, isTy_NoneType_dict, isTy_bool_bool, isTy_bool_int, isTy_bool_str, isTy_bool_list, isTy_bool_tuple, isTy_bool_dict, isTy_int_bool, isTy_int_int, isTy_int_str, isTy_int_list, isTy_int_tuple, isTy_int_dict, isTy_str_bool, isTy_str_int, isTy_str_str, isTy_str_list, isTy_str_tuple, isTy_str_dict, isTy_list_bool, isTy_list_int, isTy_list_str, isTy_list_list, isTy_list_tuple, isTy_list_dict, isTy_tuple_bool, isTy_tuple_int, isTy_tuple_str, isTy_tuple_list, isTy_tuple_tuple, isTy_tuple_dict, isTy_dict_bool, isTy_dict_int, isTy_dict_str, isTy_dict_list, isTy_dict_tuple, isTy_dict_dict, sMulti_ap, giveE, eSl_ap, pN_ap, pS_ap, dSl_l, dSl_t, isN_non, isN_bl, isN_int, isN_str, isN_lst, isN_tup, isN_dct, isN_fn, isN_row, Bool.or_true, Bool.or_false, Bool.true_or, Bool.false_or, reduceCtorEq, eq_self, ↓reduceIte]
  refine pick_ap _ (List.cons_ne_nil _ _) (by simp) fun d hd => ?_
  simp only [ret_ap, bnd_ap, ask_ap, fail_ap, noE_ap, eName_ap, eOwn_ap, eC_ap, e1_ap, e2_ap, e2g_ap, e3_ap, tst_ap, bAnd_ap, bOr_ap, bNot_ap, bYes_ap, vAnd_ap, vOr_ap, vNot_ap, tru_ap, eIf_ap, aNil_ap, aCons_ap, aStar_ap, eTup_ap, eLst_ap, eTupS_ap, eLstS_ap, eCall_ap, eRef_ap, eIsi_ap, eIsi2_ap, iSeq_ap, iEn_ap, iR1_ap, iR2_ap, iR3_ap, eLc_ap, sNil_ap, sSeq_ap, sFrz_ap, sExpr_ap, sRet_ap, sAsg_ap, sOwn_ap, sIf_ap, sFor_ap, sAug_ap, sApp_ap, sExt_ap, sRaise_ap, gN_ap, gT_ap, gsC_ap, gs0_ap, sq_rt, sq_ex, sq_bk, sq_ct, lp_rt, lp_ex, lp_bk, lp_ct, lp_nx, kS_rt, kS_ex, kS_nx, List.getElem?_cons_zero, List.getElem?_cons_succ, List.set_cons_zero, List.set_cons_succ, Option.bind_some, dLen_lst, dLen_tup, dLen_dct, dLen_str, dAdd_ii, dAdd_ss, dAdd_ll, dAdd_tt, dSub_ii, dMul_ii, dMul_li, dFdiv_ii, dMod_ii, dPow_ii, dNeg_i, dCmp_ii, dSum_l, dAll_l, dAny_l, dAbs_i, dInt_i, dInt_b, dList_l, dList_t, dTuple_l, dTuple_t, dMax2_ii, dMin2_ii, dAddI_ii, dRev_l, dIx_l, dIx_t, dIx_d, orFail_some, orFail_none, tru_non, ty_non, tru_bl, ty_bl, tru_int, ty_int, tru_str, ty_str, tru_lst, ty_lst, tru_tup, ty_tup, tru_dct, ty_dct, its_lst, items_lst, its_tup, items_tup, isL_l, dIsN, dNotN, if_true, if_false, Bool.not_true, Bool.not_false, true_and, and_true, wipeE, isTy_NoneType_bool, isTy_NoneType_int, isTy_NoneType_str, isTy_NoneType_list, isTy_NoneType_tuple, isTy_NoneType_dict, isTy_bool_bool, isTy_bool_int, isTy_bool_str, isTy_bool_list, isTy_bool_tuple, isTy_bool_dict, isTy_int_bool, isTy_int_int, isTy_int_str, isTy_int_list, isTy_int_tuple, isTy_int_dict, isTy_str_bool, isTy_str_int, isTy_str_str, isTy_str_list, isTy_str_tuple, isTy_str_dict, isTy_list_bool, isTy_list_int, isTy_list_str, isTy_list_list, isTy_list_tuple, isTy_list_dict, isTy_tuple_bool, isTy_tuple_int, isTy_tuple_str, isTy_tuple_list, isTy_tuple_tuple, isTy_tuple_dict, isTy_dict_bool, isTy_dict_int, isTy_dict_str, isTy_dict_list, isTy_dict_tuple, isTy_dict_dict, sMulti_ap, giveE, eSl_ap, pN_ap, pS_ap, dSl_l, dSl_t, isN_non, isN_bl, isN_int, isN_str, isN_lst, isN_tup, isN_dct, isN_fn, isN_row, Bool.or_true, Bool.or_false, Bool.true_or, Bool.false_or, reduceCtorEq, eq_self, ↓reduceIte, sq_nx]
  exact h d hd
/-- a last day that cannot stand -/
def LastBad (ds : List Int) (x : D) : Prop := x ∈ [D.int (-1), .int 10001, .non, .bl true] ∨ ∃ u, (ds.take 59).getLast? = some u ∧ x = .int (u - 1)
theorem last_at (xs : List Int) (h : xs ≠ []) : ∃ u, xs.getLast? = some u ∧ atI (xs.map D.int) (-1) = some (.int u) := by
  obtain ⟨ys, u, rfl⟩ : ∃ ys u, xs = ys ++ [u] := by
    rcases List.eq_nil_or_concat xs with e | ⟨ys, u, e⟩
    · exact absurd e h
    · exact ⟨ys, u, by rw [e, List.concat_eq_append]⟩
  refine ⟨u, by simp, ?_⟩
  rw [List.map_append]
  exact Y.atI_last _ _
theorem law12 (F : Days ds) (h : ∀ x, LastBad ds x → rest (eA ds t p a2 a3 b9 b10 b11 b12 b13 b14 b15 b16 (.v (.lst ((ds.take 59).map .int ++ [x]))) b18) [] KL) : sSeq (sAsg (gN 17) (e2 dAdd (eSl dSl (eName 4) pN (pS (eC (.int 59)))) (eLst (aCons (eCall c_law_pick (aCons (eName 1) (aCons (e2 dAdd (eLst (aCons (e1 dNeg (eC (.int 1))) (aCons (eC (.int 10001)) (aCons (eC .non) (aCons (eC (.bl true)) aNil))))) (eIf (tst (e2 dNe (eName 4) (eLst aNil))) (eLst (aCons (e2 dSub (e2 dIx (eSl dSl (eName 4) pN (pS (eC (.int 59)))) (e1 dNeg (eC (.int 1)))) (eC (.int 1))) aNil)) (eLst aNil))) aNil))) aNil)))) rest (eA ds t p a2 a3 b9 b10 b11 b12 b13 b14 b15 b16 .no b18) [] KL := by
  have f60 := F.len
  have c1 : Y.cutD (ds.map D.int) none (some 59) = (ds.take 59).map .int := (cut_to _ 59).trans (List.map_take ..).symm
  have fin : ∀ (xs : List D), xs ≠ [] → xs.length < 1000000 → (∀ x ∈ xs, LastBad ds x) → c_law_pick [.row, .lst xs] [] (fun a W1 => ((ds.take 59).map D.int).length + [a].length ≤ sizeLine ∧ (KL.sq rest).nx (eA ds t p a2 a3 b9 b10 b11 b12 b13 b14 b15 b16 (.v (.lst ((ds.take 59).map .int ++ [a]))) b18) W1) (fun _ _ => False) := fun xs x0 x1 hx => by
    refine pick_ap xs x0 x1 fun d hd => ⟨small_len (by simp; omega), ?_⟩
    rw [sq_nx]
    exact h d (hx d hd)
  cases hd : ds with
  | nil =>
    subst hd
    simp only [ret_ap, bnd_ap, ask_ap, fail_ap, noE_ap, eName_ap, eOwn_ap, eC_ap, e1_ap, e2_ap, e2g_ap, e3_ap, tst_ap, bAnd_ap, bOr_ap, bNot_ap, bYes_ap, vAnd_ap, vOr_ap, vNot_ap, tru_ap, eIf_ap, aNil_ap, aCons_ap, aStar_ap, eTup_ap, eLst_ap, eTupS_ap, eLstS_ap, eCall_ap, eRef_ap, eIsi_ap, eIsi2_ap, iSeq_ap, iEn_ap, iR1_ap, iR2_ap, iR3_ap, eLc_ap, sNil_ap, sSeq_ap, sFrz_ap, sExpr_ap, sRet_ap, sAsg_ap, sOwn_ap, sIf_ap, sFor_ap, sAug_ap, sApp_ap, sExt_ap, sRaise_ap, gN_ap, gT_ap, gsC_ap, gs0_ap, sq_rt, sq_ex, sq_bk, sq_ct, lp_rt, lp_ex, lp_bk, lp_ct, lp_nx, kS_rt, kS_ex, kS_nx, List.getElem?_cons_zero, List.getElem?_cons_succ, List.set_cons_zero, List.set_cons_succ, Option.bind_some, dLen_lst, dLen_tup, dLen_dct, dLen_str, dAdd_ii, dAdd_ss, dAdd_ll, dAdd_tt, dSub_ii, dMul_ii, dMul_li, dFdiv_ii, dMod_ii, dPow_ii, dNeg_i, dCmp_ii, dSum_l, dAll_l, dAny_l, dAbs_i, dInt_i, dInt_b, dList_l, dList_t, dTuple_l, dTuple_t, dMax2_ii, dMin2_ii, dAddI_ii, dRev_l, dIx_l, dIx_t, dIx_d, orFail_some, orFail_none, tru_non, ty_non, tru_bl, ty_bl, tru_int, ty_int, tru_str, ty_str, tru_lst, ty_lst, tru_tup, ty_tup, tru_dct, ty_dct, its_lst, items_lst, its_tup, items_tup, isL_l, dIsN, dNotN, if_true, if_false, Bool.not_true, Bool.not_false, true_and, and_true, wipeE, isTy_NoneType_bool, isTy_NoneType_int, isTy_NoneType_str, isTy_NoneType_list, isTy_NoneType_tuple, isTy_NoneType_dict, isTy_bool_bool, isTy_bool_int, isTy_bool_str, isTy_bool_list, isTy_bool_tuple, isTy_bool_dict, isTy_int_bool, isTy_int_int, isTy_int_str, isTy_int_list, isTy_int_tuple, isTy_int_dict, isTy_str_bool, isTy_str_int, isTy_str_str, isTy_str_list, isTy_str_tuple, isTy_str_dict, isTy_list_bool, isTy_list_int, isTy_list_str, isTy_list_list, isTy_list_tuple, isTy_list_dict, isTy_tuple_bool, isTy_tuple_int, isTy_tuple_str, isTy_tuple_list, isTy_tuple_tuple, isTy_tuple_dict, isTy_dict_bool, isTy_dict_int, isTy_dict_str, isTy_dict_list, isTy_dict_tuple, isTy_dict_dict, sMulti_ap, giveE, eSl_ap, pN_ap, pS_ap, dSl_l, dSl_t, isN_non, isN_bl, isN_int, isN_str, isN_lst, isN_tup, isN_dct, isN_fn, isN_row, Bool.or_true, Bool.or_false, Bool.true_or, Bool.false_or, reduceCtorEq, eq_self, ↓reduceIte, c1, dEqB_lst_nil _ _ (okd_ints []), List.map_nil, List.isEmpty_nil, List.append_nil]
    refine ⟨small_len (by simp), ?_⟩
    exact fin _ (by simp) (by simp) fun x hx => .inl (by simpa using hx)
  | cons z zs =>
    rw [← hd]
    have e0 : (ds.map D.int).isEmpty = false := by rw [hd]; rfl
    obtain ⟨u, hu, hu2⟩ := last_at (ds.take 59) (by rw [hd]; simp)
    simp only [ret_ap, bnd_ap, ask_ap, fail_ap, noE_ap, eName_ap, eOwn_ap, eC_ap, e1_ap, e2_ap, e2g_ap, e3_ap, tst_ap, bAnd_ap, bOr_ap, bNot_ap, bYes_ap, vAnd_ap, vOr_ap, vNot_ap, tru_ap, eIf_ap, aNil_ap, aCons_ap, aStar_ap, eTup_ap, eLst_ap, eTupS_ap, eLstS_ap, eCall_ap, eRef_ap, eIsi_ap, eIsi2_ap, iSeq_ap, iEn_ap, iR1_ap, iR2_ap, iR3_ap, eLc_ap, sNil_ap, sSeq_ap, sFrz_ap, sExpr_ap, sRet_ap, sAsg_ap, sOwn_ap, sIf_ap, sFor_ap, sAug_ap, sApp_ap, sExt_ap, sRaise_ap, gN_ap, gT_ap, gsC_ap, gs0_ap, sq_rt, sq_ex, sq_bk, sq_ct, lp_rt, lp_ex, lp_bk, lp_ct, lp_nx, kS_rt, kS_ex, kS_nx, List.getElem?_cons_zero, List.getElem?_cons_succ, List.set_cons_zero, List.set_cons_succ, Option.bind_some, dLen_lst, dLen_tup, dLen_dct, dLen_str, dAdd_ii, dAdd_ss, dAdd_ll, dAdd_tt, dSub_ii, dMul_ii, dMul_li, dFdiv_ii, dMod_ii, dPow_ii, dNeg_i, dCmp_ii, dSum_l, dAll_l, dAny_l, dAbs_i, dInt_i, dInt_b, dList_l, dList_t, dTuple_l, dTuple_t, dMax2_ii, dMin2_ii, dAddI_ii, dRev_l, dIx_l, dIx_t, dIx_d, orFail_some, orFail_none, tru_non, ty_non, tru_bl, ty_bl, tru_int, ty_int, tru_str, ty_str, tru_lst, ty_lst, tru_tup, ty_tup, tru_dct, ty_dct, its_lst, items_lst, its_tup, items_tup, isL_l, dIsN, dNotN, if_true, if_false, Bool.not_true, Bool.not_false, true_and, and_true, wipeE, isTy_NoneType_bool, isTy_NoneType_int, isTy_NoneType_str, isTy_NoneType_list, isTy_NoneType_tuple, isTy_NoneType_dict, isTy_bool_bool, isTy_bool_int, isTy_bool_str, isTy_bool_list, isTy_bool_tuple, isTy_bool_dict, isTy_int_bool, isTy_int_int, isTy_int_str, isTy_int_list, isTy_int_tuple, isTy_int_dict, isTy_str_bool, isTy_str_int, isTy_str_str, isTy_str_list, isTy_str_tuple, isTy_str_dict, isTy_list_bool, isTy_list_int, isTy_list_str, isTy_list_list, isTy_list_tuple, isTy_list_dict, isTy_tuple_bool, isTy_tuple_int, isTy_tuple_str, isTy_tuple_list, isTy_tuple_tuple, isTy_tuple_dict, isTy_dict_bool, isTy_dict_int, isTy_dict_str, isTy_dict_list, isTy_dict_tuple, isTy_dict_dict, sMulti_ap, giveE, eSl_ap, pN_ap, pS_ap, dSl_l, dSl_t, isN_non, isN_bl, isN_int, isN_str, isN_lst, isN_tup, isN_dct, isN_fn, isN_row, Bool.or_true, Bool.or_false, Bool.true_or, Bool.false_or, reduceCtorEq, eq_self, ↓reduceIte, c1, dEqB_lst_nil _ _ (okd_ints ds), e0, hu2]
    refine ⟨small_len (by simp), ?_⟩
    refine fin _ (by simp) (by simp) fun x hx => ?_
    rcases List.mem_append.mp hx with hx | hx
    · exact .inl hx
    · exact .inr ⟨u, hu, List.mem_singleton.mp hx⟩
theorem odd_ok {odd : D} (h : OddOk odd) : odd.ty.isSome = true ∧ odd.within 1 1000 = false := by
  unfold OddOk at h
  simp only [List.mem_cons, List.not_mem_nil, or_false] at h
  rcases h with rfl | rfl | rfl | rfl <;> exact ⟨rfl, rfl⟩
theorem bad_turn (F : Days ds) {odd : D} (ho : OddOk odd) {W : List MO} {R : D → List MO → Prop} {E : Exn → List MO → Prop} (h : E ⟨"BadTurn", [("value", odd)]⟩ W) : c_check_days [intsD ds, odd] W R E :=
  days_ok F (.inl rfl) (odd_ok ho).1 (fun z => by rw [(odd_ok ho).2] at z; cases z) fun _ => h
theorem bad_days (F : Days ds) {x : D} (hx : LastBad ds x) {odd : D} (ho : OddOk odd) {W : List MO} {R : D → List MO → Prop} {E : Exn → List MO → Prop} (h : E ⟨"BadDays", [("value", .int ((((ds.take 59).map D.int ++ [x]).length : Nat) - 1 : Int))]⟩ W) : c_check_days [.lst ((ds.take 59).map .int ++ [x]), odd] W R E := by
  have f60 := F.len
  have F2 : Days (ds.take 59) := ⟨by rw [List.length_take]; omega, fun d hd => F.rng d (List.mem_of_mem_take hd), F.srt.sublist (List.take_sublist _ _)⟩
  unfold LastBad at hx
  generalize hl : ds.take 59 = l at *
  have hlen : l.length ≤ 59 := by rw [← hl, List.length_take]; omega
  have tx : x.ty.isSome = true := by
    rcases hx with hx | ⟨u, _, rfl⟩
    · simp only [List.mem_cons, List.not_mem_nil, or_false] at hx
      rcases hx with rfl | rfl | rfl | rfl <;> rfl
    · rfl
  have e1 : ((((l.map D.int ++ [x]).length : Nat) : Int) - 1) = (l.length : Nat) := by simp
  rw [e1] at h
  have hbad : dayOk (l.map D.int ++ [x]) l.length x = false := by
    unfold dayOk
    rcases hx with hx | ⟨u, hu, rfl⟩
    · simp only [List.mem_cons, List.not_mem_nil, or_false] at hx
      rcases hx with rfl | rfl | rfl | rfl <;> rfl
    · obtain ⟨ys, rfl⟩ : ∃ ys, l = ys ++ [u] := List.getLast?_eq_some_iff.mp hu
      have e2 : ((ys ++ [u]).map D.int ++ [D.int (u - 1)])[(ys ++ [u]).length - 1]? = some (.int u) := by
        rw [List.length_append, List.length_singleton, Nat.add_sub_cancel, List.map_append, List.append_assoc, List.getElem?_append_right (by simp), List.length_map, Nat.sub_self]
        rfl
      rw [e2, decide_eq_false (show ¬ (ys ++ [u]).length = 0 by simp)]
      show (_ && (false || decide (u ≤ u - 1))) = false
      rw [decide_eq_false (by omega), Bool.or_self, Bool.and_false]
  have hgood : ∀ i d, i < l.length → (l.map D.int ++ [x])[i]? = some d → dayOk (l.map D.int ++ [x]) i d = true := fun i d hi hd => by
    have hd' : (l.map D.int)[i]? = some d := by rw [List.getElem?_append_left (by rw [List.length_map]; exact hi)] at hd; exact hd
    have := F2.ok i d hd'
    unfold dayOk at this ⊢
    rw [List.getElem?_append_left (by rw [List.length_map]; omega)]
    exact this
  have hlast : (l.map D.int ++ [x])[l.length]? = some x := by
    rw [List.getElem?_append_right (by simp), List.length_map, Nat.sub_self]
    rfl
  have hnot : ∀ {A : Prop}, (∀ i d, (l.map D.int ++ [x])[i]? = some d → dayOk (l.map D.int ++ [x]) i d = true) → A := fun z => by
    have := z _ _ hlast
    rw [hbad] at this
    cases this
  refine check_days_ap _ odd _ (.inl rfl) (by simp; omega) (fun d hd => ?_) (odd_ok ho).1 (fun i d hd hb _ => ?_) (fun z _ => hnot z) fun z _ => hnot z
  · rcases List.mem_append.mp hd with hd | hd
    · exact ty_ints l d hd
    · rw [List.mem_singleton.mp hd]; exact tx
  · by_cases hi : i < l.length
    · rw [hgood i d hi hd] at hb
      cases hb
    · have : i = l.length := by
        obtain ⟨hlt, _⟩ := List.getElem?_eq_some_iff.mp hd
        simp at hlt
        omega
      rw [this]
      exact h
theorem bad_row {x odd : D} (hx : x = .non ∨ x = .lst (List.replicate 61 (.int 1)) ∨ x = .int 5) {W : List MO} {R : D → List MO → Prop} {E : Exn → List MO → Prop} (h : E ⟨"BadDays", [("value", .int (-1))]⟩ W) : c_check_days [x, odd] W R E := by
  show sm_check_days [.v x, .v odd, .no, .no] W (kS R E)
  unfold sm_check_days
  rcases hx with rfl | rfl | rfl
  · simp only [ret_ap, bnd_ap, ask_ap, fail_ap, noE_ap, eName_ap, eOwn_ap, eC_ap, e1_ap, e2_ap, e2g_ap, e3_ap, tst_ap, bAnd_ap, bOr_ap, bNot_ap, bYes_ap, vAnd_ap, vOr_ap, vNot_ap, tru_ap, eIf_ap, aNil_ap, aCons_ap, aStar_ap, eTup_ap, eLst_ap, eTupS_ap, eLstS_ap, eCall_ap, eRef_ap, eIsi_ap, eIsi2_ap, iSeq_ap, iEn_ap, iR1_ap, iR2_ap, iR3_ap, eLc_ap, sNil_ap, sSeq_ap, sFrz_ap, sExpr_ap, sRet_ap, sAsg_ap, sOwn_ap, sIf_ap, sFor_ap, sAug_ap, sApp_ap, sExt_ap, sRaise_ap, gN_ap, gT_ap, gsC_ap, gs0_ap, sq_rt, sq_ex, sq_bk, sq_ct, lp_rt, lp_ex, lp_bk, lp_ct, lp_nx, kS_rt, kS_ex, kS_nx, List.getElem?_cons_zero, List.getElem?_cons_succ, List.set_cons_zero, List.set_cons_succ, Option.bind_some, dLen_lst, dLen_tup, dLen_dct, dLen_str, dAdd_ii, dAdd_ss, dAdd_ll, dAdd_tt, dSub_ii, dMul_ii, dMul_li, dFdiv_ii, dMod_ii, dPow_ii, dNeg_i, dCmp_ii, dSum_l, dAll_l, dAny_l, dAbs_i, dInt_i, dInt_b, dList_l, dList_t, dTuple_l, dTuple_t, dMax2_ii, dMin2_ii, dAddI_ii, dRev_l, dIx_l, dIx_t, dIx_d, orFail_some, orFail_none, tru_non, ty_non, tru_bl, ty_bl, tru_int, ty_int, tru_str, ty_str, tru_lst, ty_lst, tru_tup, ty_tup, tru_dct, ty_dct, its_lst, items_lst, its_tup, items_tup, isL_l, dIsN, dNotN, if_true, if_false, Bool.not_true, Bool.not_false, true_and, and_true, wipeE, isTy_NoneType_bool, isTy_NoneType_int, isTy_NoneType_str, isTy_NoneType_list, isTy_NoneType_tuple, isTy_NoneType_dict, isTy_bool_bool, isTy_bool_int, isTy_bool_str, isTy_bool_list, isTy_bool_tuple, isTy_bool_dict, isTy_int_bool, isTy_int_int, isTy_int_str, isTy_int_list, isTy_int_tuple, isTy_int_dict, isTy_str_bool, isTy_str_int, isTy_str_str, isTy_str_list, isTy_str_tuple, isTy_str_dict, isTy_list_bool, isTy_list_int, isTy_list_str, isTy_list_list, isTy_list_tuple, isTy_list_dict, isTy_tuple_bool, isTy_tuple_int, isTy_tuple_str, isTy_tuple_list, isTy_tuple_tuple, isTy_tuple_dict, isTy_dict_bool, isTy_dict_int, isTy_dict_str, isTy_dict_list, isTy_dict_tuple, isTy_dict_dict, sMulti_ap, giveE, eSl_ap, pN_ap, pS_ap, dSl_l, dSl_t, isN_non, isN_bl, isN_int, isN_str, isN_lst, isN_tup, isN_dct, isN_fn, isN_row, Bool.or_true, Bool.or_false, Bool.true_or, Bool.false_or, reduceCtorEq, eq_self, ↓reduceIte, is_row_ap .non rfl, D.isRow]
    exact h
  · have e : decide ((60 : Int) < ((List.replicate 61 (D.int 1)).length : Nat)) = true := by rw [List.length_replicate]; decide
    simp only [ret_ap, bnd_ap, ask_ap, fail_ap, noE_ap, eName_ap, eOwn_ap, eC_ap, e1_ap, e2_ap, e2g_ap, e3_ap, tst_ap, bAnd_ap, bOr_ap, bNot_ap, bYes_ap, vAnd_ap, vOr_ap, vNot_ap, tru_ap, eIf_ap, aNil_ap, aCons_ap, aStar_ap, eTup_ap, eLst_ap, eTupS_ap, eLstS_ap, eCall_ap, eRef_ap, eIsi_ap, eIsi2_ap, iSeq_ap, iEn_ap, iR1_ap, iR2_ap, iR3_ap, eLc_ap, sNil_ap, sSeq_ap, sFrz_ap, sExpr_ap, sRet_ap, sAsg_ap, sOwn_ap, sIf_ap, sFor_ap, sAug_ap, sApp_ap, sExt_ap, sRaise_ap, gN_ap, gT_ap, gsC_ap, gs0_ap, sq_rt, sq_ex, sq_bk, sq_ct, lp_rt, lp_ex, lp_bk, lp_ct, lp_nx, kS_rt, kS_ex, kS_nx, List.getElem?_cons_zero, List.getElem?_cons_succ, List.set_cons_zero, List.set_cons_succ, Option.bind_some, dLen_lst, dLen_tup, dLen_dct, dLen_str, dAdd_ii, dAdd_ss, dAdd_ll, dAdd_tt, dSub_ii, dMul_ii, dMul_li, dFdiv_ii, dMod_ii, dPow_ii, dNeg_i, dCmp_ii, dSum_l, dAll_l, dAny_l, dAbs_i, dInt_i, dInt_b, dList_l, dList_t, dTuple_l, dTuple_t, dMax2_ii, dMin2_ii, dAddI_ii, dRev_l, dIx_l, dIx_t, dIx_d, orFail_some, orFail_none, tru_non, ty_non, tru_bl, ty_bl, tru_int, ty_int, tru_str, ty_str, tru_lst, ty_lst, tru_tup, ty_tup, tru_dct, ty_dct, its_lst, items_lst, its_tup, items_tup, isL_l, dIsN, dNotN, if_true, if_false, Bool.not_true, Bool.not_false, true_and, and_true, wipeE, isTy_NoneType_bool, isTy_NoneType_int, isTy_NoneType_str, isTy_NoneType_list, isTy_NoneType_tuple, isTy_NoneType_dict, isTy_bool_bool, isTy_bool_int, isTy_bool_str, isTy_bool_list, isTy_bool_tuple, isTy_bool_dict, isTy_int_bool, isTy_int_int, isTy_int_str, isTy_int_list, isTy_int_tuple, isTy_int_dict, isTy_str_bool, isTy_str_int, isTy_str_str, isTy_str_list, isTy_str_tuple, isTy_str_dict, isTy_list_bool, isTy_list_int, isTy_list_str, isTy_list_list, isTy_list_tuple, isTy_list_dict, isTy_tuple_bool, isTy_tuple_int, isTy_tuple_str, isTy_tuple_list, isTy_tuple_tuple, isTy_tuple_dict, isTy_dict_bool, isTy_dict_int, isTy_dict_str, isTy_dict_list, isTy_dict_tuple, isTy_dict_dict, sMulti_ap, giveE, eSl_ap, pN_ap, pS_ap, dSl_l, dSl_t, isN_non, isN_bl, isN_int, isN_str, isN_lst, isN_tup, isN_dct, isN_fn, isN_row, Bool.or_true, Bool.or_false, Bool.true_or, Bool.false_or, reduceCtorEq, eq_self, ↓reduceIte, is_row_ap (.lst (List.replicate 61 (.int 1))) rfl, D.isRow, e]
    exact h
  · simp only [ret_ap, bnd_ap, ask_ap, fail_ap, noE_ap, eName_ap, eOwn_ap, eC_ap, e1_ap, e2_ap, e2g_ap, e3_ap, tst_ap, bAnd_ap, bOr_ap, bNot_ap, bYes_ap, vAnd_ap, vOr_ap, vNot_ap, tru_ap, eIf_ap, aNil_ap, aCons_ap, aStar_ap, eTup_ap, eLst_ap, eTupS_ap, eLstS_ap, eCall_ap, eRef_ap, eIsi_ap, eIsi2_ap, iSeq_ap, iEn_ap, iR1_ap, iR2_ap, iR3_ap, eLc_ap, sNil_ap, sSeq_ap, sFrz_ap, sExpr_ap, sRet_ap, sAsg_ap, sOwn_ap, sIf_ap, sFor_ap, sAug_ap, sApp_ap, sExt_ap, sRaise_ap, gN_ap, gT_ap, gsC_ap, gs0_ap, sq_rt, sq_ex, sq_bk, sq_ct, lp_rt, lp_ex, lp_bk, lp_ct, lp_nx, kS_rt, kS_ex, kS_nx, List.getElem?_cons_zero, List.getElem?_cons_succ, List.set_cons_zero, List.set_cons_succ, Option.bind_some, dLen_lst, dLen_tup, dLen_dct, dLen_str, dAdd_ii, dAdd_ss, dAdd_ll, dAdd_tt, dSub_ii, dMul_ii, dMul_li, dFdiv_ii, dMod_ii, dPow_ii, dNeg_i, dCmp_ii, dSum_l, dAll_l, dAny_l, dAbs_i, dInt_i, dInt_b, dList_l, dList_t, dTuple_l, dTuple_t, dMax2_ii, dMin2_ii, dAddI_ii, dRev_l, dIx_l, dIx_t, dIx_d, orFail_some, orFail_none, tru_non, ty_non, tru_bl, ty_bl, tru_int, ty_int, tru_str, ty_str, tru_lst, ty_lst, tru_tup, ty_tup, tru_dct, ty_dct, its_lst, items_lst, its_tup, items_tup, isL_l, dIsN, dNotN, if_true, if_false, Bool.not_true, Bool.not_false, true_and, and_true, wipeE, isTy_NoneType_bool, isTy_NoneType_int, isTy_NoneType_str, isTy_NoneType_list, isTy_NoneType_tuple, isTy_NoneType_dict, isTy_bool_bool, isTy_bool_int, isTy_bool_str, isTy_bool_list, isTy_bool_tuple, isTy_bool_dict, isTy_int_bool, isTy_int_int, isTy_int_str, isTy_int_list, isTy_int_tuple, isTy_int_dict, isTy_str_bool, isTy_str_int, isTy_str_str, isTy_str_list, isTy_str_tuple, isTy_str_dict, isTy_list_bool, isTy_list_int, isTy_list_str, isTy_list_list, isTy_list_tuple, isTy_list_dict, isTy_tuple_bool, isTy_tuple_int, isTy_tuple_str, isTy_tuple_list, isTy_tuple_tuple, isTy_tuple_dict, isTy_dict_bool, isTy_dict_int, isTy_dict_str, isTy_dict_list, isTy_dict_tuple, isTy_dict_dict, sMulti_ap, giveE, eSl_ap, pN_ap, pS_ap, dSl_l, dSl_t, isN_non, isN_bl, isN_int, isN_str, isN_lst, isN_tup, isN_dct, isN_fn, isN_row, Bool.or_true, Bool.or_false, Bool.true_or, Bool.false_or, reduceCtorEq, eq_self, ↓reduceIte, is_row_ap (.int 5) rfl, D.isRow]
    exact h
theorem repr_ok {odd : D} (ho : OddOk odd) : (D.tup [.str "turn", odd]).okd 60 = true ∧ (D.tup [.str "turn", odd]).toP.showable = true ∧ (D.tup [.str "turn", odd]).toP.shown.length ≤ sizeLine := by
  unfold OddOk at ho
  simp only [List.mem_cons, List.not_mem_nil, or_false] at ho
  rcases ho with rfl | rfl | rfl | rfl <;> decide +kernel
theorem tup_eq {w : Str} (so : PyData.strOk w = true) (i : Int) (f : Bool → Bool) {W : List MO} {R : D → List MO → Prop} {E : Exn → List MO → Prop} : dEqB f (.tup [.str w, .int i]) (.tup [.str w, .int i]) W R E = R (.bl (f true)) W := dEqB_self f _ (by simp [D.okd, D.okds, so])
theorem ref_days (d : D) : refAt rcs ⟨"BadDays", [("value", d)]⟩ = some (.tup [.str "days", d]) := rfl
theorem ref_turn (d : D) : refAt rcs ⟨"BadTurn", [("value", d)]⟩ = some (.tup [.str "turn", d]) := rfl
theorem ref_places (d : D) : refAt rcs ⟨"BadPlaces", [("value", d)]⟩ = some (.tup [.str "places", d]) := rfl
theorem ref_spares (d : D) : refAt rcs ⟨"BadSpares", [("value", d)]⟩ = some (.tup [.str "spares", d]) := rfl
/-! the asks all look at the days first -/
theorem spares_of {L M : D} {W : List MO} {R : D → List MO → Prop} {E : Exn → List MO → Prop} (h : ∀ R, c_check_days [L, M] W R E) : c_spares_needed [L, M] W R E := by
  show sm_spares_needed [.v L, .v M] W (kS R E)
  unfold sm_spares_needed
  simp only [ret_ap, bnd_ap, ask_ap, fail_ap, noE_ap, eName_ap, eOwn_ap, eC_ap, e1_ap, e2_ap, e2g_ap, e3_ap, tst_ap, bAnd_ap, bOr_ap, bNot_ap, bYes_ap, vAnd_ap, vOr_ap, vNot_ap, tru_ap, eIf_ap, aNil_ap, aCons_ap, aStar_ap, eTup_ap, eLst_ap, eTupS_ap, eLstS_ap, eCall_ap, eRef_ap, eIsi_ap, eIsi2_ap, iSeq_ap, iEn_ap, iR1_ap, iR2_ap, iR3_ap, eLc_ap, sNil_ap, sSeq_ap, sFrz_ap, sExpr_ap, sRet_ap, sAsg_ap, sOwn_ap, sIf_ap, sFor_ap, sAug_ap, sApp_ap, sExt_ap, sRaise_ap, gN_ap, gT_ap, gsC_ap, gs0_ap, sq_rt, sq_ex, sq_bk, sq_ct, lp_rt, lp_ex, lp_bk, lp_ct, lp_nx, kS_rt, kS_ex, kS_nx, List.getElem?_cons_zero, List.getElem?_cons_succ, List.set_cons_zero, List.set_cons_succ, Option.bind_some, dLen_lst, dLen_tup, dLen_dct, dLen_str, dAdd_ii, dAdd_ss, dAdd_ll, dAdd_tt, dSub_ii, dMul_ii, dMul_li, dFdiv_ii, dMod_ii, dPow_ii, dNeg_i, dCmp_ii, dSum_l, dAll_l, dAny_l, dAbs_i, dInt_i, dInt_b, dList_l, dList_t, dTuple_l, dTuple_t, dMax2_ii, dMin2_ii, dAddI_ii, dRev_l, dIx_l, dIx_t, dIx_d, orFail_some, orFail_none, tru_non, ty_non, tru_bl, ty_bl, tru_int, ty_int, tru_str, ty_str, tru_lst, ty_lst, tru_tup, ty_tup, tru_dct, ty_dct, its_lst, items_lst, its_tup, items_tup, isL_l, dIsN, dNotN, if_true, if_false, Bool.not_true, Bool.not_false, true_and, and_true, wipeE, isTy_NoneType_bool, isTy_NoneType_int, isTy_NoneType_str, isTy_NoneType_list, isTy_NoneType_tuple, isTy_NoneType_dict, isTy_bool_bool, isTy_bool_int, isTy_bool_str, isTy_bool_list, isTy_bool_tuple, isTy_bool_dict, isTy_int_bool, isTy_int_int, isTy_int_str, isTy_int_list, isTy_int_tuple, isTy_int_dict, isTy_str_bool, isTy_str_int, isTy_str_str, isTy_str_list, isTy_str_tuple, isTy_str_dict, isTy_list_bool, isTy_list_int, isTy_list_str, isTy_list_list, isTy_list_tuple, isTy_list_dict, isTy_tuple_bool, isTy_tuple_int, isTy_tuple_str, isTy_tuple_list, isTy_tuple_tuple, isTy_tuple_dict, isTy_dict_bool, isTy_dict_int, isTy_dict_str, isTy_dict_list, isTy_dict_tuple, isTy_dict_dict, sMulti_ap, giveE, eSl_ap, pN_ap, pS_ap, dSl_l, dSl_t, isN_non, isN_bl, isN_int, isN_str, isN_lst, isN_tup, isN_dct, isN_fn, isN_row, Bool.or_true, Bool.or_false, Bool.true_or, Bool.false_or, reduceCtorEq, eq_self, ↓reduceIte]
  exact h _
theorem busy_of {L M : D} {W : List MO} {R : D → List MO → Prop} {E : Exn → List MO → Prop} (h : ∀ R, c_check_days [L, M] W R E) : c_busy_days [L, M] W R E := by
  show sm_busy_days [.v L, .v M, .no, .no, .no, .no] W (kS R E)
  unfold sm_busy_days
  simp only [ret_ap, bnd_ap, ask_ap, fail_ap, noE_ap, eName_ap, eOwn_ap, eC_ap, e1_ap, e2_ap, e2g_ap, e3_ap, tst_ap, bAnd_ap, bOr_ap, bNot_ap, bYes_ap, vAnd_ap, vOr_ap, vNot_ap, tru_ap, eIf_ap, aNil_ap, aCons_ap, aStar_ap, eTup_ap, eLst_ap, eTupS_ap, eLstS_ap, eCall_ap, eRef_ap, eIsi_ap, eIsi2_ap, iSeq_ap, iEn_ap, iR1_ap, iR2_ap, iR3_ap, eLc_ap, sNil_ap, sSeq_ap, sFrz_ap, sExpr_ap, sRet_ap, sAsg_ap, sOwn_ap, sIf_ap, sFor_ap, sAug_ap, sApp_ap, sExt_ap, sRaise_ap, gN_ap, gT_ap, gsC_ap, gs0_ap, sq_rt, sq_ex, sq_bk, sq_ct, lp_rt, lp_ex, lp_bk, lp_ct, lp_nx, kS_rt, kS_ex, kS_nx, List.getElem?_cons_zero, List.getElem?_cons_succ, List.set_cons_zero, List.set_cons_succ, Option.bind_some, dLen_lst, dLen_tup, dLen_dct, dLen_str, dAdd_ii, dAdd_ss, dAdd_ll, dAdd_tt, dSub_ii, dMul_ii, dMul_li, dFdiv_ii, dMod_ii, dPow_ii, dNeg_i, dCmp_ii, dSum_l, dAll_l, dAny_l, dAbs_i, dInt_i, dInt_b, dList_l, dList_t, dTuple_l, dTuple_t, dMax2_ii, dMin2_ii, dAddI_ii, dRev_l, dIx_l, dIx_t, dIx_d, orFail_some, orFail_none, tru_non, ty_non, tru_bl, ty_bl, tru_int, ty_int, tru_str, ty_str, tru_lst, ty_lst, tru_tup, ty_tup, tru_dct, ty_dct, its_lst, items_lst, its_tup, items_tup, isL_l, dIsN, dNotN, if_true, if_false, Bool.not_true, Bool.not_false, true_and, and_true, wipeE, isTy_NoneType_bool, isTy_NoneType_int, isTy_NoneType_str, isTy_NoneType_list, isTy_NoneType_tuple, isTy_NoneType_dict, isTy_bool_bool, isTy_bool_int, isTy_bool_str, isTy_bool_list, isTy_bool_tuple, isTy_bool_dict, isTy_int_bool, isTy_int_int, isTy_int_str, isTy_int_list, isTy_int_tuple, isTy_int_dict, isTy_str_bool, isTy_str_int, isTy_str_str, isTy_str_list, isTy_str_tuple, isTy_str_dict, isTy_list_bool, isTy_list_int, isTy_list_str, isTy_list_list, isTy_list_tuple, isTy_list_dict, isTy_tuple_bool, isTy_tuple_int, isTy_tuple_str, isTy_tuple_list, isTy_tuple_tuple, isTy_tuple_dict, isTy_dict_bool, isTy_dict_int, isTy_dict_str, isTy_dict_list, isTy_dict_tuple, isTy_dict_dict, sMulti_ap, giveE, eSl_ap, pN_ap, pS_ap, dSl_l, dSl_t, isN_non, isN_bl, isN_int, isN_str, isN_lst, isN_tup, isN_dct, isN_fn, isN_row, Bool.or_true, Bool.or_false, Bool.true_or, Bool.false_or, reduceCtorEq, eq_self, ↓reduceIte]
  exact h _
theorem shop_of {L M N : D} {W : List MO} {R : D → List MO → Prop} {E : Exn → List MO → Prop} (h : ∀ R, c_check_days [L, M] W R E) : c_with_shop [L, M, N] W R E := by
  show sm_with_shop [.v L, .v M, .v N] W (kS R E)
  unfold sm_with_shop
  simp only [ret_ap, bnd_ap, ask_ap, fail_ap, noE_ap, eName_ap, eOwn_ap, eC_ap, e1_ap, e2_ap, e2g_ap, e3_ap, tst_ap, bAnd_ap, bOr_ap, bNot_ap, bYes_ap, vAnd_ap, vOr_ap, vNot_ap, tru_ap, eIf_ap, aNil_ap, aCons_ap, aStar_ap, eTup_ap, eLst_ap, eTupS_ap, eLstS_ap, eCall_ap, eRef_ap, eIsi_ap, eIsi2_ap, iSeq_ap, iEn_ap, iR1_ap, iR2_ap, iR3_ap, eLc_ap, sNil_ap, sSeq_ap, sFrz_ap, sExpr_ap, sRet_ap, sAsg_ap, sOwn_ap, sIf_ap, sFor_ap, sAug_ap, sApp_ap, sExt_ap, sRaise_ap, gN_ap, gT_ap, gsC_ap, gs0_ap, sq_rt, sq_ex, sq_bk, sq_ct, lp_rt, lp_ex, lp_bk, lp_ct, lp_nx, kS_rt, kS_ex, kS_nx, List.getElem?_cons_zero, List.getElem?_cons_succ, List.set_cons_zero, List.set_cons_succ, Option.bind_some, dLen_lst, dLen_tup, dLen_dct, dLen_str, dAdd_ii, dAdd_ss, dAdd_ll, dAdd_tt, dSub_ii, dMul_ii, dMul_li, dFdiv_ii, dMod_ii, dPow_ii, dNeg_i, dCmp_ii, dSum_l, dAll_l, dAny_l, dAbs_i, dInt_i, dInt_b, dList_l, dList_t, dTuple_l, dTuple_t, dMax2_ii, dMin2_ii, dAddI_ii, dRev_l, dIx_l, dIx_t, dIx_d, orFail_some, orFail_none, tru_non, ty_non, tru_bl, ty_bl, tru_int, ty_int, tru_str, ty_str, tru_lst, ty_lst, tru_tup, ty_tup, tru_dct, ty_dct, its_lst, items_lst, its_tup, items_tup, isL_l, dIsN, dNotN, if_true, if_false, Bool.not_true, Bool.not_false, true_and, and_true, wipeE, isTy_NoneType_bool, isTy_NoneType_int, isTy_NoneType_str, isTy_NoneType_list, isTy_NoneType_tuple, isTy_NoneType_dict, isTy_bool_bool, isTy_bool_int, isTy_bool_str, isTy_bool_list, isTy_bool_tuple, isTy_bool_dict, isTy_int_bool, isTy_int_int, isTy_int_str, isTy_int_list, isTy_int_tuple, isTy_int_dict, isTy_str_bool, isTy_str_int, isTy_str_str, isTy_str_list, isTy_str_tuple, isTy_str_dict, isTy_list_bool, isTy_list_int, isTy_list_str, isTy_list_list, isTy_list_tuple, isTy_list_dict, isTy_tuple_bool, isTy_tuple_int, isTy_tuple_str, isTy_tuple_list, isTy_tuple_tuple, isTy_tuple_dict, isTy_dict_bool, isTy_dict_int, isTy_dict_str, isTy_dict_list, isTy_dict_tuple, isTy_dict_dict, sMulti_ap, giveE, eSl_ap, pN_ap, pS_ap, dSl_l, dSl_t, isN_non, isN_bl, isN_int, isN_str, isN_lst, isN_tup, isN_dct, isN_fn, isN_row, Bool.or_true, Bool.or_false, Bool.true_or, Bool.false_or, reduceCtorEq, eq_self, ↓reduceIte]
  exact h _
theorem sshop_of {L M N : D} {W : List MO} {R : D → List MO → Prop} {E : Exn → List MO → Prop} (h : ∀ R, c_check_days [L, M] W R E) : c_shop_spares [L, M, N] W R E := by
  show sm_shop_spares [.v L, .v M, .v N] W (kS R E)
  unfold sm_shop_spares
  simp only [ret_ap, bnd_ap, ask_ap, fail_ap, noE_ap, eName_ap, eOwn_ap, eC_ap, e1_ap, e2_ap, e2g_ap, e3_ap, tst_ap, bAnd_ap, bOr_ap, bNot_ap, bYes_ap, vAnd_ap, vOr_ap, vNot_ap, tru_ap, eIf_ap, aNil_ap, aCons_ap, aStar_ap, eTup_ap, eLst_ap, eTupS_ap, eLstS_ap, eCall_ap, eRef_ap, eIsi_ap, eIsi2_ap, iSeq_ap, iEn_ap, iR1_ap, iR2_ap, iR3_ap, eLc_ap, sNil_ap, sSeq_ap, sFrz_ap, sExpr_ap, sRet_ap, sAsg_ap, sOwn_ap, sIf_ap, sFor_ap, sAug_ap, sApp_ap, sExt_ap, sRaise_ap, gN_ap, gT_ap, gsC_ap, gs0_ap, sq_rt, sq_ex, sq_bk, sq_ct, lp_rt, lp_ex, lp_bk, lp_ct, lp_nx, kS_rt, kS_ex, kS_nx, List.getElem?_cons_zero, List.getElem?_cons_succ, List.set_cons_zero, List.set_cons_succ, Option.bind_some, dLen_lst, dLen_tup, dLen_dct, dLen_str, dAdd_ii, dAdd_ss, dAdd_ll, dAdd_tt, dSub_ii, dMul_ii, dMul_li, dFdiv_ii, dMod_ii, dPow_ii, dNeg_i, dCmp_ii, dSum_l, dAll_l, dAny_l, dAbs_i, dInt_i, dInt_b, dList_l, dList_t, dTuple_l, dTuple_t, dMax2_ii, dMin2_ii, dAddI_ii, dRev_l, dIx_l, dIx_t, dIx_d, orFail_some, orFail_none, tru_non, ty_non, tru_bl, ty_bl, tru_int, ty_int, tru_str, ty_str, tru_lst, ty_lst, tru_tup, ty_tup, tru_dct, ty_dct, its_lst, items_lst, its_tup, items_tup, isL_l, dIsN, dNotN, if_true, if_false, Bool.not_true, Bool.not_false, true_and, and_true, wipeE, isTy_NoneType_bool, isTy_NoneType_int, isTy_NoneType_str, isTy_NoneType_list, isTy_NoneType_tuple, isTy_NoneType_dict, isTy_bool_bool, isTy_bool_int, isTy_bool_str, isTy_bool_list, isTy_bool_tuple, isTy_bool_dict, isTy_int_bool, isTy_int_int, isTy_int_str, isTy_int_list, isTy_int_tuple, isTy_int_dict, isTy_str_bool, isTy_str_int, isTy_str_str, isTy_str_list, isTy_str_tuple, isTy_str_dict, isTy_list_bool, isTy_list_int, isTy_list_str, isTy_list_list, isTy_list_tuple, isTy_list_dict, isTy_tuple_bool, isTy_tuple_int, isTy_tuple_str, isTy_tuple_list, isTy_tuple_tuple, isTy_tuple_dict, isTy_dict_bool, isTy_dict_int, isTy_dict_str, isTy_dict_list, isTy_dict_tuple, isTy_dict_dict, sMulti_ap, giveE, eSl_ap, pN_ap, pS_ap, dSl_l, dSl_t, isN_non, isN_bl, isN_int, isN_str, isN_lst, isN_tup, isN_dct, isN_fn, isN_row, Bool.or_true, Bool.or_false, Bool.true_or, Bool.false_or, reduceCtorEq, eq_self, ↓reduceIte]
  exact h _
theorem shop_pl (F : Days ds) {W : List MO} {R : D → List MO → Prop} {E : Exn → List MO → Prop} (h : E ⟨"BadPlaces", [("value", .int 21)]⟩ W) : c_with_shop [intsD ds, .int 1, .int 21] W R E := by
  show sm_with_shop [.v (intsD ds), .v (.int 1), .v (.int 21)] W (kS R E)
  unfold sm_with_shop
  simp only [ret_ap, bnd_ap, ask_ap, fail_ap, noE_ap, eName_ap, eOwn_ap, eC_ap, e1_ap, e2_ap, e2g_ap, e3_ap, tst_ap, bAnd_ap, bOr_ap, bNot_ap, bYes_ap, vAnd_ap, vOr_ap, vNot_ap, tru_ap, eIf_ap, aNil_ap, aCons_ap, aStar_ap, eTup_ap, eLst_ap, eTupS_ap, eLstS_ap, eCall_ap, eRef_ap, eIsi_ap, eIsi2_ap, iSeq_ap, iEn_ap, iR1_ap, iR2_ap, iR3_ap, eLc_ap, sNil_ap, sSeq_ap, sFrz_ap, sExpr_ap, sRet_ap, sAsg_ap, sOwn_ap, sIf_ap, sFor_ap, sAug_ap, sApp_ap, sExt_ap, sRaise_ap, gN_ap, gT_ap, gsC_ap, gs0_ap, sq_rt, sq_ex, sq_bk, sq_ct, lp_rt, lp_ex, lp_bk, lp_ct, lp_nx, kS_rt, kS_ex, kS_nx, List.getElem?_cons_zero, List.getElem?_cons_succ, List.set_cons_zero, List.set_cons_succ, Option.bind_some, dLen_lst, dLen_tup, dLen_dct, dLen_str, dAdd_ii, dAdd_ss, dAdd_ll, dAdd_tt, dSub_ii, dMul_ii, dMul_li, dFdiv_ii, dMod_ii, dPow_ii, dNeg_i, dCmp_ii, dSum_l, dAll_l, dAny_l, dAbs_i, dInt_i, dInt_b, dList_l, dList_t, dTuple_l, dTuple_t, dMax2_ii, dMin2_ii, dAddI_ii, dRev_l, dIx_l, dIx_t, dIx_d, orFail_some, orFail_none, tru_non, ty_non, tru_bl, ty_bl, tru_int, ty_int, tru_str, ty_str, tru_lst, ty_lst, tru_tup, ty_tup, tru_dct, ty_dct, its_lst, items_lst, its_tup, items_tup, isL_l, dIsN, dNotN, if_true, if_false, Bool.not_true, Bool.not_false, true_and, and_true, wipeE, isTy_NoneType_bool, isTy_NoneType_int, isTy_NoneType_str, isTy_NoneType_list, isTy_NoneType_tuple, isTy_NoneType_dict, isTy_bool_bool, isTy_bool_int, isTy_bool_str, isTy_bool_list, isTy_bool_tuple, isTy_bool_dict, isTy_int_bool, isTy_int_int, isTy_int_str, isTy_int_list, isTy_int_tuple, isTy_int_dict, isTy_str_bool, isTy_str_int, isTy_str_str, isTy_str_list, isTy_str_tuple, isTy_str_dict, isTy_list_bool, isTy_list_int, isTy_list_str, isTy_list_list, isTy_list_tuple, isTy_list_dict, isTy_tuple_bool, isTy_tuple_int, isTy_tuple_str, isTy_tuple_list, isTy_tuple_tuple, isTy_tuple_dict, isTy_dict_bool, isTy_dict_int, isTy_dict_str, isTy_dict_list, isTy_dict_tuple, isTy_dict_dict, sMulti_ap, giveE, eSl_ap, pN_ap, pS_ap, dSl_l, dSl_t, isN_non, isN_bl, isN_int, isN_str, isN_lst, isN_tup, isN_dct, isN_fn, isN_row, Bool.or_true, Bool.or_false, Bool.true_or, Bool.false_or, reduceCtorEq, eq_self, ↓reduceIte]
  refine days_fine F (.inl rfl) (by decide) (by decide) ?_
  rw [sq_nx]
  simp only [ret_ap, bnd_ap, ask_ap, fail_ap, noE_ap, eName_ap, eOwn_ap, eC_ap, e1_ap, e2_ap, e2g_ap, e3_ap, tst_ap, bAnd_ap, bOr_ap, bNot_ap, bYes_ap, vAnd_ap, vOr_ap, vNot_ap, tru_ap, eIf_ap, aNil_ap, aCons_ap, aStar_ap, eTup_ap, eLst_ap, eTupS_ap, eLstS_ap, eCall_ap, eRef_ap, eIsi_ap, eIsi2_ap, iSeq_ap, iEn_ap, iR1_ap, iR2_ap, iR3_ap, eLc_ap, sNil_ap, sSeq_ap, sFrz_ap, sExpr_ap, sRet_ap, sAsg_ap, sOwn_ap, sIf_ap, sFor_ap, sAug_ap, sApp_ap, sExt_ap, sRaise_ap, gN_ap, gT_ap, gsC_ap, gs0_ap, sq_rt, sq_ex, sq_bk, sq_ct, lp_rt, lp_ex, lp_bk, lp_ct, lp_nx, kS_rt, kS_ex, kS_nx, List.getElem?_cons_zero, List.getElem?_cons_succ, List.set_cons_zero, List.set_cons_succ, Option.bind_some, dLen_lst, dLen_tup, dLen_dct, dLen_str, dAdd_ii, dAdd_ss, dAdd_ll, dAdd_tt, dSub_ii, dMul_ii, dMul_li, dFdiv_ii, dMod_ii, dPow_ii, dNeg_i, dCmp_ii, dSum_l, dAll_l, dAny_l, dAbs_i, dInt_i, dInt_b, dList_l, dList_t, dTuple_l, dTuple_t, dMax2_ii, dMin2_ii, dAddI_ii, dRev_l, dIx_l, dIx_t, dIx_d, orFail_some, orFail_none, tru_non, ty_non, tru_bl, ty_bl, tru_int, ty_int, tru_str, ty_str, tru_lst, ty_lst, tru_tup, ty_tup, tru_dct, ty_dct, its_lst, items_lst, its_tup, items_tup, isL_l, dIsN, dNotN, if_true, if_false, Bool.not_true, Bool.not_false, true_and, and_true, wipeE, isTy_NoneType_bool, isTy_NoneType_int, isTy_NoneType_str, isTy_NoneType_list, isTy_NoneType_tuple, isTy_NoneType_dict, isTy_bool_bool, isTy_bool_int, isTy_bool_str, isTy_bool_list, isTy_bool_tuple, isTy_bool_dict, isTy_int_bool, isTy_int_int, isTy_int_str, isTy_int_list, isTy_int_tuple, isTy_int_dict, isTy_str_bool, isTy_str_int, isTy_str_str, isTy_str_list, isTy_str_tuple, isTy_str_dict, isTy_list_bool, isTy_list_int, isTy_list_str, isTy_list_list, isTy_list_tuple, isTy_list_dict, isTy_tuple_bool, isTy_tuple_int, isTy_tuple_str, isTy_tuple_list, isTy_tuple_tuple, isTy_tuple_dict, isTy_dict_bool, isTy_dict_int, isTy_dict_str, isTy_dict_list, isTy_dict_tuple, isTy_dict_dict, sMulti_ap, giveE, eSl_ap, pN_ap, pS_ap, dSl_l, dSl_t, isN_non, isN_bl, isN_int, isN_str, isN_lst, isN_tup, isN_dct, isN_fn, isN_row, Bool.or_true, Bool.or_false, Bool.true_or, Bool.false_or, reduceCtorEq, eq_self, ↓reduceIte]
  exact check_places_ap _ rfl (fun z => by cases z) fun _ => h
theorem sshop_pl (F : Days ds) {W : List MO} {R : D → List MO → Prop} {E : Exn → List MO → Prop} (h : E ⟨"BadPlaces", [("value", .int 21)]⟩ W) : c_shop_spares [intsD ds, .int 1, .int 21] W R E := by
  show sm_shop_spares [.v (intsD ds), .v (.int 1), .v (.int 21)] W (kS R E)
  unfold sm_shop_spares
  simp only [ret_ap, bnd_ap, ask_ap, fail_ap, noE_ap, eName_ap, eOwn_ap, eC_ap, e1_ap, e2_ap, e2g_ap, e3_ap, tst_ap, bAnd_ap, bOr_ap, bNot_ap, bYes_ap, vAnd_ap, vOr_ap, vNot_ap, tru_ap, eIf_ap, aNil_ap, aCons_ap, aStar_ap, eTup_ap, eLst_ap, eTupS_ap, eLstS_ap, eCall_ap, eRef_ap, eIsi_ap, eIsi2_ap, iSeq_ap, iEn_ap, iR1_ap, iR2_ap, iR3_ap, eLc_ap, sNil_ap, sSeq_ap, sFrz_ap, sExpr_ap, sRet_ap, sAsg_ap, sOwn_ap, sIf_ap, sFor_ap, sAug_ap, sApp_ap, sExt_ap, sRaise_ap, gN_ap, gT_ap, gsC_ap, gs0_ap, sq_rt, sq_ex, sq_bk, sq_ct, lp_rt, lp_ex, lp_bk, lp_ct, lp_nx, kS_rt, kS_ex, kS_nx, List.getElem?_cons_zero, List.getElem?_cons_succ, List.set_cons_zero, List.set_cons_succ, Option.bind_some, dLen_lst, dLen_tup, dLen_dct, dLen_str, dAdd_ii, dAdd_ss, dAdd_ll, dAdd_tt, dSub_ii, dMul_ii, dMul_li, dFdiv_ii, dMod_ii, dPow_ii, dNeg_i, dCmp_ii, dSum_l, dAll_l, dAny_l, dAbs_i, dInt_i, dInt_b, dList_l, dList_t, dTuple_l, dTuple_t, dMax2_ii, dMin2_ii, dAddI_ii, dRev_l, dIx_l, dIx_t, dIx_d, orFail_some, orFail_none, tru_non, ty_non, tru_bl, ty_bl, tru_int, ty_int, tru_str, ty_str, tru_lst, ty_lst, tru_tup, ty_tup, tru_dct, ty_dct, its_lst, items_lst, its_tup, items_tup, isL_l, dIsN, dNotN, if_true, if_false, Bool.not_true, Bool.not_false, true_and, and_true, wipeE, isTy_NoneType_bool, isTy_NoneType_int, isTy_NoneType_str, isTy_NoneType_list, isTy_NoneType_tuple, isTy_NoneType_dict, isTy_bool_bool, isTy_bool_int, isTy_bool_str, isTy_bool_list, isTy_bool_tuple, isTy_bool_dict, isTy_int_bool, isTy_int_int, isTy_int_str, isTy_int_list, isTy_int_tuple, isTy_int_dict, isTy_str_bool, isTy_str_int, isTy_str_str, isTy_str_list, isTy_str_tuple, isTy_str_dict, isTy_list_bool, isTy_list_int, isTy_list_str, isTy_list_list, isTy_list_tuple, isTy_list_dict, isTy_tuple_bool, isTy_tuple_int, isTy_tuple_str, isTy_tuple_list, isTy_tuple_tuple, isTy_tuple_dict, isTy_dict_bool, isTy_dict_int, isTy_dict_str, isTy_dict_list, isTy_dict_tuple, isTy_dict_dict, sMulti_ap, giveE, eSl_ap, pN_ap, pS_ap, dSl_l, dSl_t, isN_non, isN_bl, isN_int, isN_str, isN_lst, isN_tup, isN_dct, isN_fn, isN_row, Bool.or_true, Bool.or_false, Bool.true_or, Bool.false_or, reduceCtorEq, eq_self, ↓reduceIte]
  refine days_fine F (.inl rfl) (by decide) (by decide) ?_
  rw [sq_nx]
  simp only [ret_ap, bnd_ap, ask_ap, fail_ap, noE_ap, eName_ap, eOwn_ap, eC_ap, e1_ap, e2_ap, e2g_ap, e3_ap, tst_ap, bAnd_ap, bOr_ap, bNot_ap, bYes_ap, vAnd_ap, vOr_ap, vNot_ap, tru_ap, eIf_ap, aNil_ap, aCons_ap, aStar_ap, eTup_ap, eLst_ap, eTupS_ap, eLstS_ap, eCall_ap, eRef_ap, eIsi_ap, eIsi2_ap, iSeq_ap, iEn_ap, iR1_ap, iR2_ap, iR3_ap, eLc_ap, sNil_ap, sSeq_ap, sFrz_ap, sExpr_ap, sRet_ap, sAsg_ap, sOwn_ap, sIf_ap, sFor_ap, sAug_ap, sApp_ap, sExt_ap, sRaise_ap, gN_ap, gT_ap, gsC_ap, gs0_ap, sq_rt, sq_ex, sq_bk, sq_ct, lp_rt, lp_ex, lp_bk, lp_ct, lp_nx, kS_rt, kS_ex, kS_nx, List.getElem?_cons_zero, List.getElem?_cons_succ, List.set_cons_zero, List.set_cons_succ, Option.bind_some, dLen_lst, dLen_tup, dLen_dct, dLen_str, dAdd_ii, dAdd_ss, dAdd_ll, dAdd_tt, dSub_ii, dMul_ii, dMul_li, dFdiv_ii, dMod_ii, dPow_ii, dNeg_i, dCmp_ii, dSum_l, dAll_l, dAny_l, dAbs_i, dInt_i, dInt_b, dList_l, dList_t, dTuple_l, dTuple_t, dMax2_ii, dMin2_ii, dAddI_ii, dRev_l, dIx_l, dIx_t, dIx_d, orFail_some, orFail_none, tru_non, ty_non, tru_bl, ty_bl, tru_int, ty_int, tru_str, ty_str, tru_lst, ty_lst, tru_tup, ty_tup, tru_dct, ty_dct, its_lst, items_lst, its_tup, items_tup, isL_l, dIsN, dNotN, if_true, if_false, Bool.not_true, Bool.not_false, true_and, and_true, wipeE, isTy_NoneType_bool, isTy_NoneType_int, isTy_NoneType_str, isTy_NoneType_list, isTy_NoneType_tuple, isTy_NoneType_dict, isTy_bool_bool, isTy_bool_int, isTy_bool_str, isTy_bool_list, isTy_bool_tuple, isTy_bool_dict, isTy_int_bool, isTy_int_int, isTy_int_str, isTy_int_list, isTy_int_tuple, isTy_int_dict, isTy_str_bool, isTy_str_int, isTy_str_str, isTy_str_list, isTy_str_tuple, isTy_str_dict, isTy_list_bool, isTy_list_int, isTy_list_str, isTy_list_list, isTy_list_tuple, isTy_list_dict, isTy_tuple_bool, isTy_tuple_int, isTy_tuple_str, isTy_tuple_list, isTy_tuple_tuple, isTy_tuple_dict, isTy_dict_bool, isTy_dict_int, isTy_dict_str, isTy_dict_list, isTy_dict_tuple, isTy_dict_dict, sMulti_ap, giveE, eSl_ap, pN_ap, pS_ap, dSl_l, dSl_t, isN_non, isN_bl, isN_int, isN_str, isN_lst, isN_tup, isN_dct, isN_fn, isN_row, Bool.or_true, Bool.or_false, Bool.true_or, Bool.false_or, reduceCtorEq, eq_self, ↓reduceIte]
  exact check_places_ap _ rfl (fun z => by cases z) fun _ => h
theorem without_sp (F : Days ds) (h1 : 1 ≤ t) (h2 : t ≤ 12) {W : List MO} {R : D → List MO → Prop} {E : Exn → List MO → Prop} (h : E ⟨"BadSpares", [("value", .int (-1))]⟩ W) : c_first_without [intsD ds, .int t, .int (-1)] W R E := by
  show sm_first_without [.v (intsD ds), .v (.int t), .v (.int (-1)), .no, .no] W (kS R E)
  unfold sm_first_without
  simp only [ret_ap, bnd_ap, ask_ap, fail_ap, noE_ap, eName_ap, eOwn_ap, eC_ap, e1_ap, e2_ap, e2g_ap, e3_ap, tst_ap, bAnd_ap, bOr_ap, bNot_ap, bYes_ap, vAnd_ap, vOr_ap, vNot_ap, tru_ap, eIf_ap, aNil_ap, aCons_ap, aStar_ap, eTup_ap, eLst_ap, eTupS_ap, eLstS_ap, eCall_ap, eRef_ap, eIsi_ap, eIsi2_ap, iSeq_ap, iEn_ap, iR1_ap, iR2_ap, iR3_ap, eLc_ap, sNil_ap, sSeq_ap, sFrz_ap, sExpr_ap, sRet_ap, sAsg_ap, sOwn_ap, sIf_ap, sFor_ap, sAug_ap, sApp_ap, sExt_ap, sRaise_ap, gN_ap, gT_ap, gsC_ap, gs0_ap, sq_rt, sq_ex, sq_bk, sq_ct, lp_rt, lp_ex, lp_bk, lp_ct, lp_nx, kS_rt, kS_ex, kS_nx, List.getElem?_cons_zero, List.getElem?_cons_succ, List.set_cons_zero, List.set_cons_succ, Option.bind_some, dLen_lst, dLen_tup, dLen_dct, dLen_str, dAdd_ii, dAdd_ss, dAdd_ll, dAdd_tt, dSub_ii, dMul_ii, dMul_li, dFdiv_ii, dMod_ii, dPow_ii, dNeg_i, dCmp_ii, dSum_l, dAll_l, dAny_l, dAbs_i, dInt_i, dInt_b, dList_l, dList_t, dTuple_l, dTuple_t, dMax2_ii, dMin2_ii, dAddI_ii, dRev_l, dIx_l, dIx_t, dIx_d, orFail_some, orFail_none, tru_non, ty_non, tru_bl, ty_bl, tru_int, ty_int, tru_str, ty_str, tru_lst, ty_lst, tru_tup, ty_tup, tru_dct, ty_dct, its_lst, items_lst, its_tup, items_tup, isL_l, dIsN, dNotN, if_true, if_false, Bool.not_true, Bool.not_false, true_and, and_true, wipeE, isTy_NoneType_bool, isTy_NoneType_int, isTy_NoneType_str, isTy_NoneType_list, isTy_NoneType_tuple, isTy_NoneType_dict, isTy_bool_bool, isTy_bool_int, isTy_bool_str, isTy_bool_list, isTy_bool_tuple, isTy_bool_dict, isTy_int_bool, isTy_int_int, isTy_int_str, isTy_int_list, isTy_int_tuple, isTy_int_dict, isTy_str_bool, isTy_str_int, isTy_str_str, isTy_str_list, isTy_str_tuple, isTy_str_dict, isTy_list_bool, isTy_list_int, isTy_list_str, isTy_list_list, isTy_list_tuple, isTy_list_dict, isTy_tuple_bool, isTy_tuple_int, isTy_tuple_str, isTy_tuple_list, isTy_tuple_tuple, isTy_tuple_dict, isTy_dict_bool, isTy_dict_int, isTy_dict_str, isTy_dict_list, isTy_dict_tuple, isTy_dict_dict, sMulti_ap, giveE, eSl_ap, pN_ap, pS_ap, dSl_l, dSl_t, isN_non, isN_bl, isN_int, isN_str, isN_lst, isN_tup, isN_dct, isN_fn, isN_row, Bool.or_true, Bool.or_false, Bool.true_or, Bool.false_or, reduceCtorEq, eq_self, ↓reduceIte]
  refine days_fine F (.inl rfl) h1 (by omega) ?_
  simp only [ret_ap, bnd_ap, ask_ap, fail_ap, noE_ap, eName_ap, eOwn_ap, eC_ap, e1_ap, e2_ap, e2g_ap, e3_ap, tst_ap, bAnd_ap, bOr_ap, bNot_ap, bYes_ap, vAnd_ap, vOr_ap, vNot_ap, tru_ap, eIf_ap, aNil_ap, aCons_ap, aStar_ap, eTup_ap, eLst_ap, eTupS_ap, eLstS_ap, eCall_ap, eRef_ap, eIsi_ap, eIsi2_ap, iSeq_ap, iEn_ap, iR1_ap, iR2_ap, iR3_ap, eLc_ap, sNil_ap, sSeq_ap, sFrz_ap, sExpr_ap, sRet_ap, sAsg_ap, sOwn_ap, sIf_ap, sFor_ap, sAug_ap, sApp_ap, sExt_ap, sRaise_ap, gN_ap, gT_ap, gsC_ap, gs0_ap, sq_rt, sq_ex, sq_bk, sq_ct, lp_rt, lp_ex, lp_bk, lp_ct, lp_nx, kS_rt, kS_ex, kS_nx, List.getElem?_cons_zero, List.getElem?_cons_succ, List.set_cons_zero, List.set_cons_succ, Option.bind_some, dLen_lst, dLen_tup, dLen_dct, dLen_str, dAdd_ii, dAdd_ss, dAdd_ll, dAdd_tt, dSub_ii, dMul_ii, dMul_li, dFdiv_ii, dMod_ii, dPow_ii, dNeg_i, dCmp_ii, dSum_l, dAll_l, dAny_l, dAbs_i, dInt_i, dInt_b, dList_l, dList_t, dTuple_l, dTuple_t, dMax2_ii, dMin2_ii, dAddI_ii, dRev_l, dIx_l, dIx_t, dIx_d, orFail_some, orFail_none, tru_non, ty_non, tru_bl, ty_bl, tru_int, ty_int, tru_str, ty_str, tru_lst, ty_lst, tru_tup, ty_tup, tru_dct, ty_dct, its_lst, items_lst, its_tup, items_tup, isL_l, dIsN, dNotN, if_true, if_false, Bool.not_true, Bool.not_false, true_and, and_true, wipeE, isTy_NoneType_bool, isTy_NoneType_int, isTy_NoneType_str, isTy_NoneType_list, isTy_NoneType_tuple, isTy_NoneType_dict, isTy_bool_bool, isTy_bool_int, isTy_bool_str, isTy_bool_list, isTy_bool_tuple, isTy_bool_dict, isTy_int_bool, isTy_int_int, isTy_int_str, isTy_int_list, isTy_int_tuple, isTy_int_dict, isTy_str_bool, isTy_str_int, isTy_str_str, isTy_str_list, isTy_str_tuple, isTy_str_dict, isTy_list_bool, isTy_list_int, isTy_list_str, isTy_list_list, isTy_list_tuple, isTy_list_dict, isTy_tuple_bool, isTy_tuple_int, isTy_tuple_str, isTy_tuple_list, isTy_tuple_tuple, isTy_tuple_dict, isTy_dict_bool, isTy_dict_int, isTy_dict_str, isTy_dict_list, isTy_dict_tuple, isTy_dict_dict, sMulti_ap, giveE, eSl_ap, pN_ap, pS_ap, dSl_l, dSl_t, isN_non, isN_bl, isN_int, isN_str, isN_lst, isN_tup, isN_dct, isN_fn, isN_row, Bool.or_true, Bool.or_false, Bool.true_or, Bool.false_or, reduceCtorEq, eq_self, ↓reduceIte, sq_nx, is_within_ap (.int (-1)) 0 60 rfl, show D.within 0 60 (.int (-1)) = false from rfl]
  exact h
theorem ask2 (F : Days ds) {odd x : D} (ho : OddOk odd) (hx : LastBad ds x) {f : D} {sem : List D → M D} {K : Ks}
    (hcal : ∀ env : Y.Env, env[18]? = some (.v f) → callee 18 2 tbl_spares_needed_busy_days_with_shop_shop_spares env = some sem) (hs : ∀ {L M : D} {W : List MO} {R : D → List MO → Prop} {E : Exn → List MO → Prop}, (∀ R, c_check_days [L, M] W R E) → sem [L, M] W R E)
    (h : K.nx (eA ds t p a2 a3 b9 b10 b11 b12 b13 b14 b15 (.v odd) (.v (.lst ((ds.take 59).map .int ++ [x]))) (.v f)) []) : (sSeq (sIf (tst (e2 dNe (e1 dRepr (eRef rcs (eCallL 18 2 tbl_spares_needed_busy_days_with_shop_shop_spares (aCons (eName 4) (aCons (eName 16) aNil))))) (e1 dRepr (eTup (aCons (eC (.str "turn")) (aCons (eName 16) aNil)))))) (sRet (eC (.bl false))) sNil) (sIf (tst (e2 dNe (eRef rcs (eCallL 18 2 tbl_spares_needed_busy_days_with_shop_shop_spares (aCons (eName 17) (aCons (eName 16) aNil)))) (eTup (aCons (eC (.str "days")) (aCons (e2 dSub (e1 dLen (eName 17)) (eC (.int 1))) aNil))))) (sRet (eC (.bl false))) sNil)) (eA ds t p a2 a3 b9 b10 b11 b12 b13 b14 b15 (.v odd) (.v (.lst ((ds.take 59).map .int ++ [x]))) (.v f)) [] K := by
  have ec := hcal (eA ds t p a2 a3 b9 b10 b11 b12 b13 b14 b15 (.v odd) (.v (.lst ((ds.take 59).map .int ++ [x]))) (.v f)) rfl
  have rp := repr_ok ho
  have so : PyData.strOk ("days" : Str) = true := by decide +kernel
  simp only [ret_ap, bnd_ap, ask_ap, fail_ap, noE_ap, eName_ap, eOwn_ap, eC_ap, e1_ap, e2_ap, e2g_ap, e3_ap, tst_ap, bAnd_ap, bOr_ap, bNot_ap, bYes_ap, vAnd_ap, vOr_ap, vNot_ap, tru_ap, eIf_ap, aNil_ap, aCons_ap, aStar_ap, eTup_ap, eLst_ap, eTupS_ap, eLstS_ap, eCall_ap, eRef_ap, eIsi_ap, eIsi2_ap, iSeq_ap, iEn_ap, iR1_ap, iR2_ap, iR3_ap, eLc_ap, sNil_ap, sSeq_ap, sFrz_ap, sExpr_ap, sRet_ap, sAsg_ap, sOwn_ap, sIf_ap, sFor_ap, sAug_ap, sApp_ap, sExt_ap, sRaise_ap, gN_ap, gT_ap, gsC_ap, gs0_ap, sq_rt, sq_ex, sq_bk, sq_ct, lp_rt, lp_ex, lp_bk, lp_ct, lp_nx, kS_rt, kS_ex, kS_nx, List.getElem?_cons_zero, List.getElem?_cons_succ, List.set_cons_zero, List.set_cons_succ, Option.bind_some, dLen_lst, dLen_tup, dLen_dct, dLen_str, dAdd_ii, dAdd_ss, dAdd_ll, dAdd_tt, dSub_ii, dMul_ii, dMul_li, dFdiv_ii, dMod_ii, dPow_ii, dNeg_i, dCmp_ii, dSum_l, dAll_l, dAny_l, dAbs_i, dInt_i, dInt_b, dList_l, dList_t, dTuple_l, dTuple_t, dMax2_ii, dMin2_ii, dAddI_ii, dRev_l, dIx_l, dIx_t, dIx_d, orFail_some, orFail_none, tru_non, ty_non, tru_bl, ty_bl, tru_int, ty_int, tru_str, ty_str, tru_lst, ty_lst, tru_tup, ty_tup, tru_dct, ty_dct, its_lst, items_lst, its_tup, items_tup, isL_l, dIsN, dNotN, if_true, if_false, Bool.not_true, Bool.not_false, true_and, and_true, wipeE, isTy_NoneType_bool, isTy_NoneType_int, isTy_NoneType_str, isTy_NoneType_list, isTy_NoneType_tuple, isTy_NoneType_dict, isTy_bool_bool, isTy_bool_int, isTy_bool_str, isTy_bool_list, isTy_bool_tuple, isTy_bool_dict, isTy_int_bool, isTy_int_int, isTy_int_str, isTy_int_list, isTy_int_tuple, isTy_int_dict, isTy_str_bool, isTy_str_int, isTy_str_str, isTy_str_list, isTy_str_tuple, isTy_str_dict, isTy_list_bool, isTy_list_int, isTy_list_str, isTy_list_list, isTy_list_tuple, isTy_list_dict, isTy_tuple_bool, isTy_tuple_int, isTy_tuple_str, isTy_tuple_list, isTy_tuple_tuple, isTy_tuple_dict, isTy_dict_bool, isTy_dict_int, isTy_dict_str, isTy_dict_list, isTy_dict_tuple, isTy_dict_dict, sMulti_ap, giveE, eSl_ap, pN_ap, pS_ap, dSl_l, dSl_t, isN_non, isN_bl, isN_int, isN_str, isN_lst, isN_tup, isN_dct, isN_fn, isN_row, Bool.or_true, Bool.or_false, Bool.true_or, Bool.false_or, reduceCtorEq, eq_self, ↓reduceIte, eCallL_ap, ec]
  refine hs fun R => bad_turn F ho ⟨_, ref_turn _, ?_⟩
  simp only [ret_ap, bnd_ap, ask_ap, fail_ap, noE_ap, eName_ap, eOwn_ap, eC_ap, e1_ap, e2_ap, e2g_ap, e3_ap, tst_ap, bAnd_ap, bOr_ap, bNot_ap, bYes_ap, vAnd_ap, vOr_ap, vNot_ap, tru_ap, eIf_ap, aNil_ap, aCons_ap, aStar_ap, eTup_ap, eLst_ap, eTupS_ap, eLstS_ap, eCall_ap, eRef_ap, eIsi_ap, eIsi2_ap, iSeq_ap, iEn_ap, iR1_ap, iR2_ap, iR3_ap, eLc_ap, sNil_ap, sSeq_ap, sFrz_ap, sExpr_ap, sRet_ap, sAsg_ap, sOwn_ap, sIf_ap, sFor_ap, sAug_ap, sApp_ap, sExt_ap, sRaise_ap, gN_ap, gT_ap, gsC_ap, gs0_ap, sq_rt, sq_ex, sq_bk, sq_ct, lp_rt, lp_ex, lp_bk, lp_ct, lp_nx, kS_rt, kS_ex, kS_nx, List.getElem?_cons_zero, List.getElem?_cons_succ, List.set_cons_zero, List.set_cons_succ, Option.bind_some, dLen_lst, dLen_tup, dLen_dct, dLen_str, dAdd_ii, dAdd_ss, dAdd_ll, dAdd_tt, dSub_ii, dMul_ii, dMul_li, dFdiv_ii, dMod_ii, dPow_ii, dNeg_i, dCmp_ii, dSum_l, dAll_l, dAny_l, dAbs_i, dInt_i, dInt_b, dList_l, dList_t, dTuple_l, dTuple_t, dMax2_ii, dMin2_ii, dAddI_ii, dRev_l, dIx_l, dIx_t, dIx_d, orFail_some, orFail_none, tru_non, ty_non, tru_bl, ty_bl, tru_int, ty_int, tru_str, ty_str, tru_lst, ty_lst, tru_tup, ty_tup, tru_dct, ty_dct, its_lst, items_lst, its_tup, items_tup, isL_l, dIsN, dNotN, if_true, if_false, Bool.not_true, Bool.not_false, true_and, and_true, wipeE, isTy_NoneType_bool, isTy_NoneType_int, isTy_NoneType_str, isTy_NoneType_list, isTy_NoneType_tuple, isTy_NoneType_dict, isTy_bool_bool, isTy_bool_int, isTy_bool_str, isTy_bool_list, isTy_bool_tuple, isTy_bool_dict, isTy_int_bool, isTy_int_int, isTy_int_str, isTy_int_list, isTy_int_tuple, isTy_int_dict, isTy_str_bool, isTy_str_int, isTy_str_str, isTy_str_list, isTy_str_tuple, isTy_str_dict, isTy_list_bool, isTy_list_int, isTy_list_str, isTy_list_list, isTy_list_tuple, isTy_list_dict, isTy_tuple_bool, isTy_tuple_int, isTy_tuple_str, isTy_tuple_list, isTy_tuple_tuple, isTy_tuple_dict, isTy_dict_bool, isTy_dict_int, isTy_dict_str, isTy_dict_list, isTy_dict_tuple, isTy_dict_dict, sMulti_ap, giveE, eSl_ap, pN_ap, pS_ap, dSl_l, dSl_t, isN_non, isN_bl, isN_int, isN_str, isN_lst, isN_tup, isN_dct, isN_fn, isN_row, Bool.or_true, Bool.or_false, Bool.true_or, Bool.false_or, reduceCtorEq, eq_self, ↓reduceIte, dRepr_tup, dEqB_str]
  refine ⟨rp, rp, ?_⟩
  simp only [ret_ap, bnd_ap, ask_ap, fail_ap, noE_ap, eName_ap, eOwn_ap, eC_ap, e1_ap, e2_ap, e2g_ap, e3_ap, tst_ap, bAnd_ap, bOr_ap, bNot_ap, bYes_ap, vAnd_ap, vOr_ap, vNot_ap, tru_ap, eIf_ap, aNil_ap, aCons_ap, aStar_ap, eTup_ap, eLst_ap, eTupS_ap, eLstS_ap, eCall_ap, eRef_ap, eIsi_ap, eIsi2_ap, iSeq_ap, iEn_ap, iR1_ap, iR2_ap, iR3_ap, eLc_ap, sNil_ap, sSeq_ap, sFrz_ap, sExpr_ap, sRet_ap, sAsg_ap, sOwn_ap, sIf_ap, sFor_ap, sAug_ap, sApp_ap, sExt_ap, sRaise_ap, gN_ap, gT_ap, gsC_ap, gs0_ap, sq_rt, sq_ex, sq_bk, sq_ct, lp_rt, lp_ex, lp_bk, lp_ct, lp_nx, kS_rt, kS_ex, kS_nx, List.getElem?_cons_zero, List.getElem?_cons_succ, List.set_cons_zero, List.set_cons_succ, Option.bind_some, dLen_lst, dLen_tup, dLen_dct, dLen_str, dAdd_ii, dAdd_ss, dAdd_ll, dAdd_tt, dSub_ii, dMul_ii, dMul_li, dFdiv_ii, dMod_ii, dPow_ii, dNeg_i, dCmp_ii, dSum_l, dAll_l, dAny_l, dAbs_i, dInt_i, dInt_b, dList_l, dList_t, dTuple_l, dTuple_t, dMax2_ii, dMin2_ii, dAddI_ii, dRev_l, dIx_l, dIx_t, dIx_d, orFail_some, orFail_none, tru_non, ty_non, tru_bl, ty_bl, tru_int, ty_int, tru_str, ty_str, tru_lst, ty_lst, tru_tup, ty_tup, tru_dct, ty_dct, its_lst, items_lst, its_tup, items_tup, isL_l, dIsN, dNotN, if_true, if_false, Bool.not_true, Bool.not_false, true_and, and_true, wipeE, isTy_NoneType_bool, isTy_NoneType_int, isTy_NoneType_str, isTy_NoneType_list, isTy_NoneType_tuple, isTy_NoneType_dict, isTy_bool_bool, isTy_bool_int, isTy_bool_str, isTy_bool_list, isTy_bool_tuple, isTy_bool_dict, isTy_int_bool, isTy_int_int, isTy_int_str, isTy_int_list, isTy_int_tuple, isTy_int_dict, isTy_str_bool, isTy_str_int, isTy_str_str, isTy_str_list, isTy_str_tuple, isTy_str_dict, isTy_list_bool, isTy_list_int, isTy_list_str, isTy_list_list, isTy_list_tuple, isTy_list_dict, isTy_tuple_bool, isTy_tuple_int, isTy_tuple_str, isTy_tuple_list, isTy_tuple_tuple, isTy_tuple_dict, isTy_dict_bool, isTy_dict_int, isTy_dict_str, isTy_dict_list, isTy_dict_tuple, isTy_dict_dict, sMulti_ap, giveE, eSl_ap, pN_ap, pS_ap, dSl_l, dSl_t, isN_non, isN_bl, isN_int, isN_str, isN_lst, isN_tup, isN_dct, isN_fn, isN_row, Bool.or_true, Bool.or_false, Bool.true_or, Bool.false_or, reduceCtorEq, eq_self, ↓reduceIte, sq_nx, decide_true, eCallL_ap, ec]
  refine hs fun R => bad_days F hx ho ⟨_, ref_days _, ?_⟩
  simp only [ret_ap, bnd_ap, ask_ap, fail_ap, noE_ap, eName_ap, eOwn_ap, eC_ap, e1_ap, e2_ap, e2g_ap, e3_ap, tst_ap, bAnd_ap, bOr_ap, bNot_ap, bYes_ap, vAnd_ap, vOr_ap, vNot_ap, tru_ap, eIf_ap, aNil_ap, aCons_ap, aStar_ap, eTup_ap, eLst_ap, eTupS_ap, eLstS_ap, eCall_ap, eRef_ap, eIsi_ap, eIsi2_ap, iSeq_ap, iEn_ap, iR1_ap, iR2_ap, iR3_ap, eLc_ap, sNil_ap, sSeq_ap, sFrz_ap, sExpr_ap, sRet_ap, sAsg_ap, sOwn_ap, sIf_ap, sFor_ap, sAug_ap, sApp_ap, sExt_ap, sRaise_ap, gN_ap, gT_ap, gsC_ap, gs0_ap, sq_rt, sq_ex, sq_bk, sq_ct, lp_rt, lp_ex, lp_bk, lp_ct, lp_nx, kS_rt, kS_ex, kS_nx, List.getElem?_cons_zero, List.getElem?_cons_succ, List.set_cons_zero, List.set_cons_succ, Option.bind_some, dLen_lst, dLen_tup, dLen_dct, dLen_str, dAdd_ii, dAdd_ss, dAdd_ll, dAdd_tt, dSub_ii, dMul_ii, dMul_li, dFdiv_ii, dMod_ii, dPow_ii, dNeg_i, dCmp_ii, dSum_l, dAll_l, dAny_l, dAbs_i, dInt_i, dInt_b, dList_l, dList_t, dTuple_l, dTuple_t, dMax2_ii, dMin2_ii, dAddI_ii, dRev_l, dIx_l, dIx_t, dIx_d, orFail_some, orFail_none, tru_non, ty_non, tru_bl, ty_bl, tru_int, ty_int, tru_str, ty_str, tru_lst, ty_lst, tru_tup, ty_tup, tru_dct, ty_dct, its_lst, items_lst, its_tup, items_tup, isL_l, dIsN, dNotN, if_true, if_false, Bool.not_true, Bool.not_false, true_and, and_true, wipeE, isTy_NoneType_bool, isTy_NoneType_int, isTy_NoneType_str, isTy_NoneType_list, isTy_NoneType_tuple, isTy_NoneType_dict, isTy_bool_bool, isTy_bool_int, isTy_bool_str, isTy_bool_list, isTy_bool_tuple, isTy_bool_dict, isTy_int_bool, isTy_int_int, isTy_int_str, isTy_int_list, isTy_int_tuple, isTy_int_dict, isTy_str_bool, isTy_str_int, isTy_str_str, isTy_str_list, isTy_str_tuple, isTy_str_dict, isTy_list_bool, isTy_list_int, isTy_list_str, isTy_list_list, isTy_list_tuple, isTy_list_dict, isTy_tuple_bool, isTy_tuple_int, isTy_tuple_str, isTy_tuple_list, isTy_tuple_tuple, isTy_tuple_dict, isTy_dict_bool, isTy_dict_int, isTy_dict_str, isTy_dict_list, isTy_dict_tuple, isTy_dict_dict, sMulti_ap, giveE, eSl_ap, pN_ap, pS_ap, dSl_l, dSl_t, isN_non, isN_bl, isN_int, isN_str, isN_lst, isN_tup, isN_dct, isN_fn, isN_row, Bool.or_true, Bool.or_false, Bool.true_or, Bool.false_or, reduceCtorEq, eq_self, ↓reduceIte, sq_nx, tup_eq so]
  exact h
theorem ask3 (F : Days ds) {odd x : D} (ho : OddOk odd) {f : D} {sem : List D → M D} {K : Ks}
    (hcal : ∀ env : Y.Env, env[18]? = some (.v f) → callee 18 3 tbl_spares_needed_busy_days_with_shop_shop_spares env = some sem) (hs : ∀ {L M N : D} {W : List MO} {R : D → List MO → Prop} {E : Exn → List MO → Prop}, (∀ R, c_check_days [L, M] W R E) → sem [L, M, N] W R E)
    (hp : ∀ {W : List MO} {R : D → List MO → Prop} {E : Exn → List MO → Prop}, E ⟨"BadPlaces", [("value", .int 21)]⟩ W → sem [intsD ds, .int 1, .int 21] W R E)
    (h : K.nx (eA ds t p a2 a3 b9 b10 b11 b12 b13 b14 b15 (.v odd) b17 (.v f)) []) : (sSeq (sIf (tst (e2 dNe (eRef rcs (eCallL 18 3 tbl_spares_needed_busy_days_with_shop_shop_spares (aCons (eCall c_law_pick (aCons (eName 1) (aCons (eLst (aCons (eC .non) (aCons (e2 dMul (eLst (aCons (eC (.int 1)) aNil)) (eC (.int 61))) (aCons (eC (.int 5)) aNil)))) aNil))) (aCons (eName 16) (aCons (eC .non) aNil))))) (eTup (aCons (eC (.str "days")) (aCons (e1 dNeg (eC (.int 1))) aNil))))) (sRet (eC (.bl false))) sNil) (sSeq (sIf (tst (e2 dNe (e1 dRepr (eRef rcs (eCallL 18 3 tbl_spares_needed_busy_days_with_shop_shop_spares (aCons (eName 4) (aCons (eName 16) (aCons (eC .non) aNil)))))) (e1 dRepr (eTup (aCons (eC (.str "turn")) (aCons (eName 16) aNil)))))) (sRet (eC (.bl false))) sNil) (sIf (tst (e2 dNe (eRef rcs (eCallL 18 3 tbl_spares_needed_busy_days_with_shop_shop_spares (aCons (eName 4) (aCons (eC (.int 1)) (aCons (eC (.int 21)) aNil))))) (eTup (aCons (eC (.str "places")) (aCons (eC (.int 21)) aNil))))) (sRet (eC (.bl false))) sNil))) (eA ds t p a2 a3 b9 b10 b11 b12 b13 b14 b15 (.v odd) b17 (.v f)) [] K := by
  have ec := hcal (eA ds t p a2 a3 b9 b10 b11 b12 b13 b14 b15 (.v odd) b17 (.v f)) rfl
  have rp := repr_ok ho
  have so : PyData.strOk ("days" : Str) = true := by decide +kernel
  have so2 : PyData.strOk ("places" : Str) = true := by decide +kernel
  have rep : (List.replicate (61 : Int).toNat [D.int 1]).flatten = List.replicate 61 (.int 1) := by rfl
  simp only [ret_ap, bnd_ap, ask_ap, fail_ap, noE_ap, eName_ap, eOwn_ap, eC_ap, e1_ap, e2_ap, e2g_ap, e3_ap, tst_ap, bAnd_ap, bOr_ap, bNot_ap, bYes_ap, vAnd_ap, vOr_ap, vNot_ap, tru_ap, eIf_ap, aNil_ap, aCons_ap, aStar_ap, eTup_ap, eLst_ap, eTupS_ap, eLstS_ap, eCall_ap, eRef_ap, eIsi_ap, eIsi2_ap, iSeq_ap, iEn_ap, iR1_ap, iR2_ap, iR3_ap, eLc_ap, sNil_ap, sSeq_ap, sFrz_ap, sExpr_ap, sRet_ap, sAsg_ap, sOwn_ap, sIf_ap, sFor_ap, sAug_ap, sApp_ap, sExt_ap, sRaise_ap, gN_ap, gT_ap, gsC_ap, gs0_ap, sq_rt, sq_ex, sq_bk, sq_ct, lp_rt, lp_ex, lp_bk, lp_ct, lp_nx, kS_rt, kS_ex, kS_nx, List.getElem?_cons_zero, List.getElem?_cons_succ, List.set_cons_zero, List.set_cons_succ, Option.bind_some, dLen_lst, dLen_tup, dLen_dct, dLen_str, dAdd_ii, dAdd_ss, dAdd_ll, dAdd_tt, dSub_ii, dMul_ii, dMul_li, dFdiv_ii, dMod_ii, dPow_ii, dNeg_i, dCmp_ii, dSum_l, dAll_l, dAny_l, dAbs_i, dInt_i, dInt_b, dList_l, dList_t, dTuple_l, dTuple_t, dMax2_ii, dMin2_ii, dAddI_ii, dRev_l, dIx_l, dIx_t, dIx_d, orFail_some, orFail_none, tru_non, ty_non, tru_bl, ty_bl, tru_int, ty_int, tru_str, ty_str, tru_lst, ty_lst, tru_tup, ty_tup, tru_dct, ty_dct, its_lst, items_lst, its_tup, items_tup, isL_l, dIsN, dNotN, if_true, if_false, Bool.not_true, Bool.not_false, true_and, and_true, wipeE, isTy_NoneType_bool, isTy_NoneType_int, isTy_NoneType_str, isTy_NoneType_list, isTy_NoneType_tuple, isTy_NoneType_dict, isTy_bool_bool, isTy_bool_int, isTy_bool_str, isTy_bool_list, isTy_bool_tuple, isTy_bool_dict, isTy_int_bool, isTy_int_int, isTy_int_str, isTy_int_list, isTy_int_tuple, isTy_int_dict, isTy_str_bool, isTy_str_int, isTy_str_str, isTy_str_list, isTy_str_tuple, isTy_str_dict, isTy_list_bool, isTy_list_int, isTy_list_str, isTy_list_list, isTy_list_tuple, isTy_list_dict, isTy_tuple_bool, isTy_tuple_int, isTy_tuple_str, isTy_tuple_list, isTy_tuple_tuple, isTy_tuple_dict, isTy_dict_bool, isTy_dict_int, isTy_dict_str, isTy_dict_list, isTy_dict_tuple, isTy_dict_dict, sMulti_ap, giveE, eSl_ap, pN_ap, pS_ap, dSl_l, dSl_t, isN_non, isN_bl, isN_int, isN_str, isN_lst, isN_tup, isN_dct, isN_fn, isN_row, Bool.or_true, Bool.or_false, Bool.true_or, Bool.false_or, reduceCtorEq, eq_self, ↓reduceIte, eCallL_ap, ec]
  refine ⟨⟨by decide, by decide, by decide⟩, ?_⟩
  refine pick_ap _ (List.cons_ne_nil _ _) (by simp) fun x hx => ?_
  simp only [List.mem_cons, List.not_mem_nil, or_false, rep] at hx
  refine hs fun R => bad_row hx ⟨_, ref_days _, ?_⟩
  simp only [ret_ap, bnd_ap, ask_ap, fail_ap, noE_ap, eName_ap, eOwn_ap, eC_ap, e1_ap, e2_ap, e2g_ap, e3_ap, tst_ap, bAnd_ap, bOr_ap, bNot_ap, bYes_ap, vAnd_ap, vOr_ap, vNot_ap, tru_ap, eIf_ap, aNil_ap, aCons_ap, aStar_ap, eTup_ap, eLst_ap, eTupS_ap, eLstS_ap, eCall_ap, eRef_ap, eIsi_ap, eIsi2_ap, iSeq_ap, iEn_ap, iR1_ap, iR2_ap, iR3_ap, eLc_ap, sNil_ap, sSeq_ap, sFrz_ap, sExpr_ap, sRet_ap, sAsg_ap, sOwn_ap, sIf_ap, sFor_ap, sAug_ap, sApp_ap, sExt_ap, sRaise_ap, gN_ap, gT_ap, gsC_ap, gs0_ap, sq_rt, sq_ex, sq_bk, sq_ct, lp_rt, lp_ex, lp_bk, lp_ct, lp_nx, kS_rt, kS_ex, kS_nx, List.getElem?_cons_zero, List.getElem?_cons_succ, List.set_cons_zero, List.set_cons_succ, Option.bind_some, dLen_lst, dLen_tup, dLen_dct, dLen_str, dAdd_ii, dAdd_ss, dAdd_ll, dAdd_tt, dSub_ii, dMul_ii, dMul_li, dFdiv_ii, dMod_ii, dPow_ii, dNeg_i, dCmp_ii, dSum_l, dAll_l, dAny_l, dAbs_i, dInt_i, dInt_b, dList_l, dList_t, dTuple_l, dTuple_t, dMax2_ii, dMin2_ii, dAddI_ii, dRev_l, dIx_l, dIx_t, dIx_d, orFail_some, orFail_none, tru_non, ty_non, tru_bl, ty_bl, tru_int, ty_int, tru_str, ty_str, tru_lst, ty_lst, tru_tup, ty_tup, tru_dct, ty_dct, its_lst, items_lst, its_tup, items_tup, isL_l, dIsN, dNotN, if_true, if_false, Bool.not_true, Bool.not_false, true_and, and_true, wipeE, isTy_NoneType_bool, isTy_NoneType_int, isTy_NoneType_str, isTy_NoneType_list, isTy_NoneType_tuple, isTy_NoneType_dict, isTy_bool_bool, isTy_bool_int, isTy_bool_str, isTy_bool_list, isTy_bool_tuple, isTy_bool_dict, isTy_int_bool, isTy_int_int, isTy_int_str, isTy_int_list, isTy_int_tuple, isTy_int_dict, isTy_str_bool, isTy_str_int, isTy_str_str, isTy_str_list, isTy_str_tuple, isTy_str_dict, isTy_list_bool, isTy_list_int, isTy_list_str, isTy_list_list, isTy_list_tuple, isTy_list_dict, isTy_tuple_bool, isTy_tuple_int, isTy_tuple_str, isTy_tuple_list, isTy_tuple_tuple, isTy_tuple_dict, isTy_dict_bool, isTy_dict_int, isTy_dict_str, isTy_dict_list, isTy_dict_tuple, isTy_dict_dict, sMulti_ap, giveE, eSl_ap, pN_ap, pS_ap, dSl_l, dSl_t, isN_non, isN_bl, isN_int, isN_str, isN_lst, isN_tup, isN_dct, isN_fn, isN_row, Bool.or_true, Bool.or_false, Bool.true_or, Bool.false_or, reduceCtorEq, eq_self, ↓reduceIte, sq_nx, tup_eq so, eCallL_ap, ec]
  refine hs fun R => bad_turn F ho ⟨_, ref_turn _, ?_⟩
  simp only [ret_ap, bnd_ap, ask_ap, fail_ap, noE_ap, eName_ap, eOwn_ap, eC_ap, e1_ap, e2_ap, e2g_ap, e3_ap, tst_ap, bAnd_ap, bOr_ap, bNot_ap, bYes_ap, vAnd_ap, vOr_ap, vNot_ap, tru_ap, eIf_ap, aNil_ap, aCons_ap, aStar_ap, eTup_ap, eLst_ap, eTupS_ap, eLstS_ap, eCall_ap, eRef_ap, eIsi_ap, eIsi2_ap, iSeq_ap, iEn_ap, iR1_ap, iR2_ap, iR3_ap, eLc_ap, sNil_ap, sSeq_ap, sFrz_ap, sExpr_ap, sRet_ap, sAsg_ap, sOwn_ap, sIf_ap, sFor_ap, sAug_ap, sApp_ap, sExt_ap, sRaise_ap, gN_ap, gT_ap, gsC_ap, gs0_ap, sq_rt, sq_ex, sq_bk, sq_ct, lp_rt, lp_ex, lp_bk, lp_ct, lp_nx, kS_rt, kS_ex, kS_nx, List.getElem?_cons_zero, List.getElem?_cons_succ, List.set_cons_zero, List.set_cons_succ, Option.bind_some, dLen_lst, dLen_tup, dLen_dct, dLen_str, dAdd_ii, dAdd_ss, dAdd_ll, dAdd_tt, dSub_ii, dMul_ii, dMul_li, dFdiv_ii, dMod_ii, dPow_ii, dNeg_i, dCmp_ii, dSum_l, dAll_l, dAny_l, dAbs_i, dInt_i, dInt_b, dList_l, dList_t, dTuple_l, dTuple_t, dMax2_ii, dMin2_ii, dAddI_ii, dRev_l, dIx_l, dIx_t, dIx_d, orFail_some, orFail_none, tru_non, ty_non, tru_bl, ty_bl, tru_int, ty_int, tru_str, ty_str, tru_lst, ty_lst, tru_tup, ty_tup, tru_dct, ty_dct, its_lst, items_lst, its_tup, items_tup, isL_l, dIsN, dNotN, if_true, if_false, Bool.not_true, Bool.not_false, true_and, and_true, wipeE, isTy_NoneType_bool, isTy_NoneType_int, isTy_NoneType_str, isTy_NoneType_list, isTy_NoneType_tuple, isTy_NoneType_dict, isTy_bool_bool, isTy_bool_int, isTy_bool_str, isTy_bool_list, isTy_bool_tuple, isTy_bool_dict, isTy_int_bool, isTy_int_int, isTy_int_str, isTy_int_list, isTy_int_tuple, isTy_int_dict, isTy_str_bool, isTy_str_int, isTy_str_str, isTy_str_list, isTy_str_tuple, isTy_str_dict, isTy_list_bool, isTy_list_int, isTy_list_str, isTy_list_list, isTy_list_tuple, isTy_list_dict, isTy_tuple_bool, isTy_tuple_int, isTy_tuple_str, isTy_tuple_list, isTy_tuple_tuple, isTy_tuple_dict, isTy_dict_bool, isTy_dict_int, isTy_dict_str, isTy_dict_list, isTy_dict_tuple, isTy_dict_dict, sMulti_ap, giveE, eSl_ap, pN_ap, pS_ap, dSl_l, dSl_t, isN_non, isN_bl, isN_int, isN_str, isN_lst, isN_tup, isN_dct, isN_fn, isN_row, Bool.or_true, Bool.or_false, Bool.true_or, Bool.false_or, reduceCtorEq, eq_self, ↓reduceIte, dRepr_tup, dEqB_str]
  refine ⟨rp, rp, ?_⟩
  simp only [ret_ap, bnd_ap, ask_ap, fail_ap, noE_ap, eName_ap, eOwn_ap, eC_ap, e1_ap, e2_ap, e2g_ap, e3_ap, tst_ap, bAnd_ap, bOr_ap, bNot_ap, bYes_ap, vAnd_ap, vOr_ap, vNot_ap, tru_ap, eIf_ap, aNil_ap, aCons_ap, aStar_ap, eTup_ap, eLst_ap, eTupS_ap, eLstS_ap, eCall_ap, eRef_ap, eIsi_ap, eIsi2_ap, iSeq_ap, iEn_ap, iR1_ap, iR2_ap, iR3_ap, eLc_ap, sNil_ap, sSeq_ap, sFrz_ap, sExpr_ap, sRet_ap, sAsg_ap, sOwn_ap, sIf_ap, sFor_ap, sAug_ap, sApp_ap, sExt_ap, sRaise_ap, gN_ap, gT_ap, gsC_ap, gs0_ap, sq_rt, sq_ex, sq_bk, sq_ct, lp_rt, lp_ex, lp_bk, lp_ct, lp_nx, kS_rt, kS_ex, kS_nx, List.getElem?_cons_zero, List.getElem?_cons_succ, List.set_cons_zero, List.set_cons_succ, Option.bind_some, dLen_lst, dLen_tup, dLen_dct, dLen_str, dAdd_ii, dAdd_ss, dAdd_ll, dAdd_tt, dSub_ii, dMul_ii, dMul_li, dFdiv_ii, dMod_ii, dPow_ii, dNeg_i, dCmp_ii, dSum_l, dAll_l, dAny_l, dAbs_i, dInt_i, dInt_b, dList_l, dList_t, dTuple_l, dTuple_t, dMax2_ii, dMin2_ii, dAddI_ii, dRev_l, dIx_l, dIx_t, dIx_d, orFail_some, orFail_none, tru_non, ty_non, tru_bl, ty_bl, tru_int, ty_int, tru_str, ty_str, tru_lst, ty_lst, tru_tup, ty_tup, tru_dct, ty_dct, its_lst, items_lst, its_tup, items_tup, isL_l, dIsN, dNotN, if_true, if_false, Bool.not_true, Bool.not_false, true_and, and_true, wipeE, isTy_NoneType_bool, isTy_NoneType_int, isTy_NoneType_str, isTy_NoneType_list, isTy_NoneType_tuple, isTy_NoneType_dict, isTy_bool_bool, isTy_bool_int, isTy_bool_str, isTy_bool_list, isTy_bool_tuple, isTy_bool_dict, isTy_int_bool, isTy_int_int, isTy_int_str, isTy_int_list, isTy_int_tuple, isTy_int_dict, isTy_str_bool, isTy_str_int, isTy_str_str, isTy_str_list, isTy_str_tuple, isTy_str_dict, isTy_list_bool, isTy_list_int, isTy_list_str, isTy_list_list, isTy_list_tuple, isTy_list_dict, isTy_tuple_bool, isTy_tuple_int, isTy_tuple_str, isTy_tuple_list, isTy_tuple_tuple, isTy_tuple_dict, isTy_dict_bool, isTy_dict_int, isTy_dict_str, isTy_dict_list, isTy_dict_tuple, isTy_dict_dict, sMulti_ap, giveE, eSl_ap, pN_ap, pS_ap, dSl_l, dSl_t, isN_non, isN_bl, isN_int, isN_str, isN_lst, isN_tup, isN_dct, isN_fn, isN_row, Bool.or_true, Bool.or_false, Bool.true_or, Bool.false_or, reduceCtorEq, eq_self, ↓reduceIte, sq_nx, decide_true, eCallL_ap, ec]
  refine hp ⟨_, ref_places _, ?_⟩
  simp only [ret_ap, bnd_ap, ask_ap, fail_ap, noE_ap, eName_ap, eOwn_ap, eC_ap, e1_ap, e2_ap, e2g_ap, e3_ap, tst_ap, bAnd_ap, bOr_ap, bNot_ap, bYes_ap, vAnd_ap, vOr_ap, vNot_ap, tru_ap, eIf_ap, aNil_ap, aCons_ap, aStar_ap, eTup_ap, eLst_ap, eTupS_ap, eLstS_ap, eCall_ap, eRef_ap, eIsi_ap, eIsi2_ap, iSeq_ap, iEn_ap, iR1_ap, iR2_ap, iR3_ap, eLc_ap, sNil_ap, sSeq_ap, sFrz_ap, sExpr_ap, sRet_ap, sAsg_ap, sOwn_ap, sIf_ap, sFor_ap, sAug_ap, sApp_ap, sExt_ap, sRaise_ap, gN_ap, gT_ap, gsC_ap, gs0_ap, sq_rt, sq_ex, sq_bk, sq_ct, lp_rt, lp_ex, lp_bk, lp_ct, lp_nx, kS_rt, kS_ex, kS_nx, List.getElem?_cons_zero, List.getElem?_cons_succ, List.set_cons_zero, List.set_cons_succ, Option.bind_some, dLen_lst, dLen_tup, dLen_dct, dLen_str, dAdd_ii, dAdd_ss, dAdd_ll, dAdd_tt, dSub_ii, dMul_ii, dMul_li, dFdiv_ii, dMod_ii, dPow_ii, dNeg_i, dCmp_ii, dSum_l, dAll_l, dAny_l, dAbs_i, dInt_i, dInt_b, dList_l, dList_t, dTuple_l, dTuple_t, dMax2_ii, dMin2_ii, dAddI_ii, dRev_l, dIx_l, dIx_t, dIx_d, orFail_some, orFail_none, tru_non, ty_non, tru_bl, ty_bl, tru_int, ty_int, tru_str, ty_str, tru_lst, ty_lst, tru_tup, ty_tup, tru_dct, ty_dct, its_lst, items_lst, its_tup, items_tup, isL_l, dIsN, dNotN, if_true, if_false, Bool.not_true, Bool.not_false, true_and, and_true, wipeE, isTy_NoneType_bool, isTy_NoneType_int, isTy_NoneType_str, isTy_NoneType_list, isTy_NoneType_tuple, isTy_NoneType_dict, isTy_bool_bool, isTy_bool_int, isTy_bool_str, isTy_bool_list, isTy_bool_tuple, isTy_bool_dict, isTy_int_bool, isTy_int_int, isTy_int_str, isTy_int_list, isTy_int_tuple, isTy_int_dict, isTy_str_bool, isTy_str_int, isTy_str_str, isTy_str_list, isTy_str_tuple, isTy_str_dict, isTy_list_bool, isTy_list_int, isTy_list_str, isTy_list_list, isTy_list_tuple, isTy_list_dict, isTy_tuple_bool, isTy_tuple_int, isTy_tuple_str, isTy_tuple_list, isTy_tuple_tuple, isTy_tuple_dict, isTy_dict_bool, isTy_dict_int, isTy_dict_str, isTy_dict_list, isTy_dict_tuple, isTy_dict_dict, sMulti_ap, giveE, eSl_ap, pN_ap, pS_ap, dSl_l, dSl_t, isN_non, isN_bl, isN_int, isN_str, isN_lst, isN_tup, isN_dct, isN_fn, isN_row, Bool.or_true, Bool.or_false, Bool.true_or, Bool.false_or, reduceCtorEq, eq_self, ↓reduceIte, sq_nx, tup_eq so2]
  exact h
theorem law13 (F : Days ds) {odd x : D} (ho : OddOk odd) (hx : LastBad ds x) (h : ∀ f, rest (eA ds t p a2 a3 b9 b10 b11 b12 b13 b14 b15 (.v odd) (.v (.lst ((ds.take 59).map .int ++ [x]))) f) [] KL) : sSeq (sFor (iSeq (eLst (aCons (eC (.fn "spares_needed")) (aCons (eC (.fn "busy_days")) aNil)))) (gN 18) (sSeq (sIf (tst (e2 dNe (e1 dRepr (eRef rcs (eCallL 18 2 tbl_spares_needed_busy_days_with_shop_shop_spares (aCons (eName 4) (aCons (eName 16) aNil))))) (e1 dRepr (eTup (aCons (eC (.str "turn")) (aCons (eName 16) aNil)))))) (sRet (eC (.bl false))) sNil) (sIf (tst (e2 dNe (eRef rcs (eCallL 18 2 tbl_spares_needed_busy_days_with_shop_shop_spares (aCons (eName 17) (aCons (eName 16) aNil)))) (eTup (aCons (eC (.str "days")) (aCons (e2 dSub (e1 dLen (eName 17)) (eC (.int 1))) aNil))))) (sRet (eC (.bl false))) sNil))) rest (eA ds t p a2 a3 b9 b10 b11 b12 b13 b14 b15 (.v odd) (.v (.lst ((ds.take 59).map .int ++ [x]))) b18) [] KL := by
  simp only [sSeq_ap, sFor_ap, iSeq_ap, eLst_ap, aCons_ap, aNil_ap, eC_ap, its_lst]
  rw [forM_cons]
  simp only [gN_ap, List.set_cons_zero, List.set_cons_succ]
  refine ask2 F ho hx (f := .fn "spares_needed") (callee_of (sem := c_spares_needed) rfl) spares_of ?_
  rw [lp_nx, forM_cons]
  simp only [gN_ap, List.set_cons_zero, List.set_cons_succ]
  refine ask2 F ho hx (f := .fn "busy_days") (callee_of (sem := c_busy_days) rfl) busy_of ?_
  rw [lp_nx, forM_nil, sq_nx]
  exact h _
theorem law14 (F : Days ds) {odd : D} (ho : OddOk odd) (h : ∀ f, rest (eA ds t p a2 a3 b9 b10 b11 b12 b13 b14 b15 (.v odd) b17 f) [] KL) : sSeq (sFor (iSeq (eLst (aCons (eC (.fn "with_shop")) (aCons (eC (.fn "shop_spares")) aNil)))) (gN 18) (sSeq (sIf (tst (e2 dNe (eRef rcs (eCallL 18 3 tbl_spares_needed_busy_days_with_shop_shop_spares (aCons (eCall c_law_pick (aCons (eName 1) (aCons (eLst (aCons (eC .non) (aCons (e2 dMul (eLst (aCons (eC (.int 1)) aNil)) (eC (.int 61))) (aCons (eC (.int 5)) aNil)))) aNil))) (aCons (eName 16) (aCons (eC .non) aNil))))) (eTup (aCons (eC (.str "days")) (aCons (e1 dNeg (eC (.int 1))) aNil))))) (sRet (eC (.bl false))) sNil) (sSeq (sIf (tst (e2 dNe (e1 dRepr (eRef rcs (eCallL 18 3 tbl_spares_needed_busy_days_with_shop_shop_spares (aCons (eName 4) (aCons (eName 16) (aCons (eC .non) aNil)))))) (e1 dRepr (eTup (aCons (eC (.str "turn")) (aCons (eName 16) aNil)))))) (sRet (eC (.bl false))) sNil) (sIf (tst (e2 dNe (eRef rcs (eCallL 18 3 tbl_spares_needed_busy_days_with_shop_shop_spares (aCons (eName 4) (aCons (eC (.int 1)) (aCons (eC (.int 21)) aNil))))) (eTup (aCons (eC (.str "places")) (aCons (eC (.int 21)) aNil))))) (sRet (eC (.bl false))) sNil)))) rest (eA ds t p a2 a3 b9 b10 b11 b12 b13 b14 b15 (.v odd) b17 b18) [] KL := by
  simp only [sSeq_ap, sFor_ap, iSeq_ap, eLst_ap, aCons_ap, aNil_ap, eC_ap, its_lst]
  rw [forM_cons]
  simp only [gN_ap, List.set_cons_zero, List.set_cons_succ]
  refine ask3 (x := odd) F ho (f := .fn "with_shop") (callee_of (sem := c_with_shop) rfl) shop_of (shop_pl F) ?_
  rw [lp_nx, forM_cons]
  simp only [gN_ap, List.set_cons_zero, List.set_cons_succ]
  refine ask3 (x := odd) F ho (f := .fn "shop_spares") (callee_of (sem := c_shop_spares) rfl) sshop_of (sshop_pl F) ?_
  rw [lp_nx, forM_nil, sq_nx]
  exact h _
end
theorem says : Says n_law sm_law := by
  show sm_law [.no, .v .row, .no, .no, .no, .no, .no, .no, .no, .no, .no, .no, .no, .no, .no, .no, .no, .no, .no, .no, .no] [] KL
  unfold sm_law
  refine law0 fun many most m0 m1 m2 m3 => ?_
  refine law1 m0 m1 m2 m3 fun ds F => ?_
  refine law2 fun t p h1 h2 hp => ?_
  refine law3 F h1 h2 hp ?_
  refine law4 F h1 h2 hp ?_
  refine law5 F h1 h2 hp fun b9 b10 => ?_
  refine law6 F h1 h2 fun b11 b12 => ?_
  simp only [sSeq_ap, sAsg_ap, eC_ap, gN_ap, List.set_cons_zero, List.set_cons_succ, sq_nx]
  refine law8 F fun o b14 b15 ho => ?_
  refine law9 F h1 h2 ho ?_
  refine law10 F h1 h2 ho ?_
  refine law11 fun odd hodd => ?_
  refine law12 F fun x hx => ?_
  refine law13 F hodd hx fun f => ?_
  refine law14 F hodd fun f => ?_
  have so : PyData.strOk ("spares" : Str) = true := by decide +kernel
  simp only [ret_ap, bnd_ap, ask_ap, fail_ap, noE_ap, eName_ap, eOwn_ap, eC_ap, e1_ap, e2_ap, e2g_ap, e3_ap, tst_ap, bAnd_ap, bOr_ap, bNot_ap, bYes_ap, vAnd_ap, vOr_ap, vNot_ap, tru_ap, eIf_ap, aNil_ap, aCons_ap, aStar_ap, eTup_ap, eLst_ap, eTupS_ap, eLstS_ap, eCall_ap, eRef_ap, eIsi_ap, eIsi2_ap, iSeq_ap, iEn_ap, iR1_ap, iR2_ap, iR3_ap, eLc_ap, sNil_ap, sSeq_ap, sFrz_ap, sExpr_ap, sRet_ap, sAsg_ap, sOwn_ap, sIf_ap, sFor_ap, sAug_ap, sApp_ap, sExt_ap, sRaise_ap, gN_ap, gT_ap, gsC_ap, gs0_ap, sq_rt, sq_ex, sq_bk, sq_ct, lp_rt, lp_ex, lp_bk, lp_ct, lp_nx, kS_rt, kS_ex, kS_nx, List.getElem?_cons_zero, List.getElem?_cons_succ, List.set_cons_zero, List.set_cons_succ, Option.bind_some, dLen_lst, dLen_tup, dLen_dct, dLen_str, dAdd_ii, dAdd_ss, dAdd_ll, dAdd_tt, dSub_ii, dMul_ii, dMul_li, dFdiv_ii, dMod_ii, dPow_ii, dNeg_i, dCmp_ii, dSum_l, dAll_l, dAny_l, dAbs_i, dInt_i, dInt_b, dList_l, dList_t, dTuple_l, dTuple_t, dMax2_ii, dMin2_ii, dAddI_ii, dRev_l, dIx_l, dIx_t, dIx_d, orFail_some, orFail_none, tru_non, ty_non, tru_bl, ty_bl, tru_int, ty_int, tru_str, ty_str, tru_lst, ty_lst, tru_tup, ty_tup, tru_dct, ty_dct, its_lst, items_lst, its_tup, items_tup, isL_l, dIsN, dNotN, if_true, if_false, Bool.not_true, Bool.not_false, true_and, and_true, wipeE, isTy_NoneType_bool, isTy_NoneType_int, isTy_NoneType_str, isTy_NoneType_list, isTy_NoneType_tuple, isTy_NoneType_dict, isTy_bool_bool, isTy_bool_int, isTy_bool_str, isTy_bool_list, isTy_bool_tuple, isTy_bool_dict, isTy_int_bool, isTy_int_int, isTy_int_str, isTy_int_list, isTy_int_tuple, isTy_int_dict, isTy_str_bool, isTy_str_int, isTy_str_str, isTy_str_list, isTy_str_tuple, isTy_str_dict, isTy_list_bool, isTy_list_int, isTy_list_str, isTy_list_list, isTy_list_tuple, isTy_list_dict, isTy_tuple_bool, isTy_tuple_int, isTy_tuple_str, isTy_tuple_list, isTy_tuple_tuple, isTy_tuple_dict, isTy_dict_bool, isTy_dict_int, isTy_dict_str, isTy_dict_list, isTy_dict_tuple, isTy_dict_dict, sMulti_ap, giveE, eSl_ap, pN_ap, pS_ap, dSl_l, dSl_t, isN_non, isN_bl, isN_int, isN_str, isN_lst, isN_tup, isN_dct, isN_fn, isN_row, Bool.or_true, Bool.or_false, Bool.true_or, Bool.false_or, reduceCtorEq, eq_self, ↓reduceIte]
  refine without_sp F h1 h2 ⟨_, ref_spares _, ?_⟩
  rw [show dEq = dEqB fun b => b from rfl, tup_eq so]
end K19
theorem PySem.Challenge.cw_oldspares_k19_whole_repairs_holds : PySem.Challenge.rw_oldspares_k19_whole_repairs.Holds := by
  exact K19.holds_of K19.says
