import PyProof.Rows.All
import HandS.ForMost
import HandS.ForExc
import HandS.TupAny
import HandS.Deep
import HandS.Star
import HandS.IsInst
import HandS.ExcInit
import HandS.ExcIs
import HandS.ExcField
import KE.KExcIs
import PySem.Challenge.RW_suffixhouse_k70_first_differences
set_option Elab.async false
set_option linter.all false
set_option maxRecDepth 100000
namespace DL
open PySem PySem.Spec L2

abbrev D := PyData
/-- addresses that are owned by someone: frozen data does not reach them -/
abbrev AS := Addr → Prop

inductive Res (α : Type) where
  | ok (a : α) | exc (c : Str) (at' : D) | err
def Res.bind {α β : Type} (x : Res α) (f : α → Res β) : Res β := match x with
  | .ok a => f a
  | .exc c d => .exc c d
  | .err => .err
instance : Monad Res where
  pure := Res.ok
  bind := Res.bind
@[simp] theorem Res.bind_ok {α β : Type} (a : α) (f : α → Res β) : (Res.ok a).bind f = f a := rfl
@[simp] theorem Res.bind_exc {α β : Type} (c : Str) (d : D) (f : α → Res β) : (Res.exc c d).bind f = .exc c d := rfl
@[simp] theorem Res.bind_err {α β : Type} (f : α → Res β) : (Res.err).bind f = .err := rfl

def kD : Key → D
  | .inl i => .int i
  | .inr x => .str x

mutual
inductive Rp (H : Hp) (O : AS) : D → V → Prop
  | non : Rp H O .none .non
  | bl (b : Bool) : Rp H O (.bool b) (.bl b)
  | int (i : Int) : Rp H O (.int i) (.int i)
  | str (x : Str) : Rp H O (.str x) (.str x)
  | lst {a : Addr} {xs : List V} {ds : List D} : ¬ O a → Rd H a (.lst xs) → RpA H O ds xs → Rp H O (.list ds) (.ref a)
  | tup {a : Addr} {xs : List V} {ds : List D} : ¬ O a → Rd H a (.tup xs) → RpA H O ds xs → Rp H O (.tuple ds) (.ref a)
  | dK {a : Addr} {kvs : List (Key × V)} {ds : List (D × D)} : ¬ O a → Rd H a (.dK kvs) → RpK H O ds kvs → Rp H O (.dict ds) (.ref a)
  | dT {a : Addr} {kvs : List (List Key × V)} {ds : List (D × D)} : ¬ O a → Rd H a (.dT kvs) → RpT H O ds kvs → Rp H O (.dict ds) (.ref a)
inductive RpA (H : Hp) (O : AS) : List D → List V → Prop
  | nil : RpA H O [] []
  | cons {d : D} {v : V} {ds : List D} {vs : List V} : Rp H O d v → RpA H O ds vs → RpA H O (d :: ds) (v :: vs)
inductive RpK (H : Hp) (O : AS) : List (D × D) → List (Key × V) → Prop
  | nil : RpK H O [] []
  | cons {k : Key} {d : D} {v : V} {ds : List (D × D)} {vs : List (Key × V)} : Rp H O d v → RpK H O ds vs → RpK H O ((kD k, d) :: ds) ((k, v) :: vs)
inductive RpT (H : Hp) (O : AS) : List (D × D) → List (List Key × V) → Prop
  | nil : RpT H O [] []
  | cons {k : List Key} {d : D} {v : V} {ds : List (D × D)} {vs : List (List Key × V)} : Rp H O d v → RpT H O ds vs → RpT H O ((.tuple (k.map kD), d) :: ds) ((k, v) :: vs)
end

/-- what is readable and not owned in H is so in H'; what is locked stays so -/
def Sub (H : Hp) (O : AS) (H' : Hp) (O' : AS) : Prop := (∀ a u, ¬ O a → Rd H a u → Rd H' a u ∧ ¬ O' a) ∧ ∀ a o u, ¬ O a → H a = some (.frz o u) → H' a = some (.frz o u)
theorem Sub.refl (H : Hp) (O : AS) : Sub H O H O := ⟨fun _ _ h r => ⟨r, h⟩, fun _ _ _ _ e => e⟩
theorem Sub.trans {H H1 H2 : Hp} {O O1 O2 : AS} (s : Sub H O H1 O1) (t : Sub H1 O1 H2 O2) : Sub H O H2 O2 := ⟨fun a u h r =>
  let ⟨r1, h1⟩ := s.1 a u h r
  t.1 a u h1 r1, fun a o u h e => t.2 a o u (s.1 a u h (.inr ⟨o, e⟩)).2 (s.2 a o u h e)⟩
theorem rd_same {H H' : Hp} {a : Addr} {u : HO} (s : Same H H') (r : Rd H a u) : Rd H' a u := by
  rcases r with r | ⟨o, r⟩
  · exact .inl (s _ _ r)
  · exact .inr ⟨o, s _ _ r⟩
theorem rd_ne_none {H : Hp} {a : Addr} {u : HO} (r : Rd H a u) : H a ≠ none := by
  rcases r with r | ⟨o, r⟩ <;> (rw [r]; exact fun h => nomatch h)
theorem Sub.same {H H' : Hp} (s : Same H H') (O : AS) : Sub H O H' O := ⟨fun _ _ h r => ⟨rd_same s r, h⟩, fun _ _ _ _ e => s _ _ e⟩
/-- a new address is owned -/
theorem Sub.more {H : Hp} {O : AS} {p : Addr} (h : H p = none) : Sub H O H (fun b => O b ∨ b = p) := ⟨fun a u ha r => ⟨r, fun z => by
  rcases z with z | z
  · exact ha z
  · subst z; exact rd_ne_none r h⟩, fun _ _ _ _ e => e⟩
theorem Sub.less {H : Hp} {O O' : AS} (h : ∀ a, O' a → O a) : Sub H O H O' := ⟨fun a u ha r => ⟨r, fun z => ha (h a z)⟩, fun _ _ _ _ e => e⟩
/-- an owned object is written -/
theorem Sub.upd {H : Hp} {O : AS} {p : Addr} {o : HO} (h : O p) : Sub H O (upd H p o) O := by
  have ne : ∀ a, ¬ O a → a ≠ p := fun a ha e => by subst e; exact ha h
  refine ⟨fun a u ha r => ⟨?_, ha⟩, fun a o u ha e => by rw [upd_ne (ne a ha)]; exact e⟩
  rcases r with r | ⟨o, r⟩
  · exact .inl (by rw [upd_ne (ne a ha)]; exact r)
  · exact .inr ⟨o, by rw [upd_ne (ne a ha)]; exact r⟩

section
variable {H H' : Hp} {O O' : AS}
mutual
theorem Rp.mono (s : Sub H O H' O') : ∀ {d : D} {v : V}, Rp H O d v → Rp H' O' d v
  | _, _, .non => .non
  | _, _, .bl b => .bl b
  | _, _, .int i => .int i
  | _, _, .str x => .str x
  | _, _, .lst h r q => .lst (s.1 _ _ h r).2 (s.1 _ _ h r).1 (RpA.mono s q)
  | _, _, .tup h r q => .tup (s.1 _ _ h r).2 (s.1 _ _ h r).1 (RpA.mono s q)
  | _, _, .dK h r q => .dK (s.1 _ _ h r).2 (s.1 _ _ h r).1 (RpK.mono s q)
  | _, _, .dT h r q => .dT (s.1 _ _ h r).2 (s.1 _ _ h r).1 (RpT.mono s q)
theorem RpA.mono (s : Sub H O H' O') : ∀ {ds : List D} {vs : List V}, RpA H O ds vs → RpA H' O' ds vs
  | _, _, .nil => .nil
  | _, _, .cons a b => .cons (Rp.mono s a) (RpA.mono s b)
theorem RpK.mono (s : Sub H O H' O') : ∀ {ds : List (D × D)} {vs : List (Key × V)}, RpK H O ds vs → RpK H' O' ds vs
  | _, _, .nil => .nil
  | _, _, .cons a b => .cons (Rp.mono s a) (RpK.mono s b)
theorem RpT.mono (s : Sub H O H' O') : ∀ {ds : List (D × D)} {vs : List (List Key × V)}, RpT H O ds vs → RpT H' O' ds vs
  | _, _, .nil => .nil
  | _, _, .cons a b => .cons (Rp.mono s a) (RpT.mono s b)
end
end

/-- the object at a, its content over what is not owned -/
inductive Rt (H : Hp) (O : AS) : D → Addr → Prop
  | lst {a : Addr} {xs : List V} {ds : List D} : H a = some (.lst xs) → RpA H O ds xs → Rt H O (.list ds) a
  | dK {a : Addr} {kvs : List (Key × V)} {ds : List (D × D)} : H a = some (.dK kvs) → RpK H O ds kvs → Rt H O (.dict ds) a
  | dT {a : Addr} {kvs : List (List Key × V)} {ds : List (D × D)} : H a = some (.dT kvs) → RpT H O ds kvs → Rt H O (.dict ds) a
/-- a value whose root may be owned -/
inductive Rc (H : Hp) (O : AS) : D → V → Prop
  | of {d : D} {v : V} : Rp H O d v → Rc H O d v
  | rt {d : D} {a : Addr} : Rt H O d a → Rc H O d (.ref a)

theorem Rt.mono {H H' : Hp} {O O' : AS} {d : D} {a : Addr} (s : Sub H O H' O') (e : H' a = H a) (r : Rt H O d a) : Rt H' O' d a := by
  cases r with
  | lst h q => exact .lst (e.trans h) (q.mono s)
  | dK h q => exact .dK (e.trans h) (q.mono s)
  | dT h q => exact .dT (e.trans h) (q.mono s)
theorem Rt.same {H H' : Hp} {O O' : AS} {d : D} {a : Addr} (s : Same H H') (t : Sub H O H' O') (r : Rt H O d a) : Rt H' O' d a := by
  cases r with
  | lst h q => exact .lst (s _ _ h) (q.mono t)
  | dK h q => exact .dK (s _ _ h) (q.mono t)
  | dT h q => exact .dT (s _ _ h) (q.mono t)
theorem Rc.same {H H' : Hp} {O : AS} {d : D} {v : V} (s : Same H H') (r : Rc H O d v) : Rc H' O d v := by
  cases r with
  | of r => exact .of (r.mono (Sub.same s O))
  | rt r => exact .rt (r.same s (Sub.same s O))
theorem Rc.mono {H H' : Hp} {O O' : AS} {d : D} {v : V} (s : Sub H O H' O') (e : ∀ a, H' a = H a) (r : Rc H O d v) : Rc H' O' d v := by
  cases r with
  | of r => exact .of (r.mono s)
  | rt r => exact .rt (r.mono s (e _))
theorem Rt.rp {H : Hp} {O O' : AS} {d : D} {a : Addr} (t : Sub H O H O') (h : ¬ O' a) (r : Rt H O d a) : Rp H O' d (.ref a) := by
  cases r with
  | lst e q => exact .lst h (.inl e) (q.mono t)
  | dK e q => exact .dK h (.inl e) (q.mono t)
  | dT e q => exact .dT h (.inl e) (q.mono t)

/-! ### the frame's state -/
inductive Md where
  | fz | ow | un | ex (a : Addr)
  deriving DecidableEq
abbrev Env' := List (Option D)
structure SR (H0 : Hp) (O0 : AS) (M : List Md) (O : AS) (env : Env') (σ : St) (H : Hp) : Prop where
  same : Same H0 H
  sub0 : ∀ a, O0 a → O a
  tr : ∀ a, O a → ∃ o, H a = some o ∧ Mut (some o)
  new : ∀ a, O a → O0 a ∨ H0 a = none
  len : env.length = σ.length
  fz : ∀ (i : Nat) (d : D), M[i]? = some .fz → env[i]? = some (some d) → ∃ v, σ[i]? = some (some v) ∧ Rp H O d v
  ow : ∀ (i : Nat) (d : D), M[i]? = some .ow → env[i]? = some (some d) → ∃ a, σ[i]? = some (some (.ref a)) ∧ O a ∧ ¬ O0 a ∧ Rt H O d a
  dist : ∀ (i j : Nat) (d e : D) (a : Addr), M[i]? = some .ow → M[j]? = some .ow → env[i]? = some (some d) → env[j]? = some (some e) → σ[i]? = some (some (.ref a)) → σ[j]? = some (some (.ref a)) → i = j
  exs : ∀ (i : Nat) (a : Addr), M[i]? = some (.ex a) → σ[i]? = some (some (.ref a))

theorem SR.grow {H0 H H' : Hp} {O0 O : AS} {M : List Md} {env : Env'} {σ : St} (r : SR H0 O0 M O env σ H) (s : Same H H') : SR H0 O0 M O env σ H' where
  same := r.same.trans s
  sub0 := r.sub0
  tr := fun a h => let ⟨o, e, m⟩ := r.tr a h; ⟨o, s _ _ e, m⟩
  new := r.new
  len := r.len
  fz := fun i d hm he => let ⟨v, e, q⟩ := r.fz i d hm he; ⟨v, e, q.mono (Sub.same s O)⟩
  ow := fun i d hm he => let ⟨a, e, h1, h2, q⟩ := r.ow i d hm he; ⟨a, e, h1, h2, q.same s (Sub.same s O)⟩
  dist := r.dist
  exs := r.exs

/-- the ground of a def: the heap and what is owned at its entry, the wish of an exception, the module's names -/
structure Gr (ex : Option (Addr × D)) where
  H0 : Hp
  O0 : AS
  hex : ∀ p, ex = some p → ∃ va, H0 p.1 = some (.xd [(("at" : Str), va)]) ∧ Rp H0 O0 p.2 va
/-- the wish of an exception, the module's names -/
structure Gd where
  W : WX
  mg : Str → Option Value
  ex : Option (Addr × D) := none

inductive Kd where
  | pl | co | fr
def RK (k : Kd) (H : Hp) (O : AS) (H' : Hp) (d : D) (v : V) : Prop := match k with
  | .pl => Rp H' O d v
  | .co => Rc H' O d v
  | .fr => ∃ a, v = .ref a ∧ H a = none ∧ Rt H' (fun b => O b ∨ b = a) d a
theorem RK.co {k : Kd} {H H' : Hp} {O : AS} {d : D} {v : V} (r : RK k H O H' d v) : Rc H' O d v := by
  cases k with
  | pl => exact .of r
  | co => exact r
  | fr =>
    obtain ⟨a, rfl, _, q⟩ := r
    cases q with
    | lst h q => exact .rt (.lst h (q.mono (Sub.less fun b z => .inl z)))
    | dK h q => exact .rt (.dK h (q.mono (Sub.less fun b z => .inl z)))
    | dT h q => exact .rt (.dT h (q.mono (Sub.less fun b z => .inl z)))
theorem RK.pl {H H' : Hp} {O : AS} {d : D} {v : V} (tr : ∀ a, O a → ∃ o, H a = some o ∧ Mut (some o)) (r : RK .fr H O H' d v) : Rp H' O d v := by
  obtain ⟨a, rfl, n, q⟩ := r
  refine q.rp (Sub.less fun b z => .inl z) fun z => ?_
  obtain ⟨o, e, _⟩ := tr a z
  rw [n] at e; cases e

/-- what is wanted of an exception -/
def XW (G : Gd) (O : AS) (σ : St) (H : Hp) (c : Str) (d : D) : Prop :=
  ∀ H' dd cls va, Same H H' → G.mg c = some cls → H' dd = some (.xd [(("at" : Str), va)]) → Rp H' O d va → G.W cls (some dd) σ H'
theorem XW.grow {G : Gd} {O : AS} {σ : St} {H H1 : Hp} {c : Str} {d : D} (s : Same H H1) (x : XW G O σ H c d) : XW G O σ H1 c d := fun H' dd cls va s' => x H' dd cls va (s.trans s')
def tE (G : Gd) (M : List Md) (k : Kd) (m : Env' → Res D) : TE := fun σ H Q => ∃ (g : Gr G.ex) (O : AS) (env : Env'), SR g.H0 g.O0 M O env σ H ∧ match m env with
  | .ok d => ∀ H' v, Same H H' → RK k H O H' d v → Q v H'
  | .exc c d => XW G O σ H c d
  | .err => False
def DE (X : Cx) (G : Gd) (M : List Md) (k : Kd) (e : Expr) (m : Env' → Res D) : Prop := PE X e (tE G M k m)

/-- weaker readings -/
theorem pe_imp {X : Cx} {e : Expr} {t t' : TE} (h : PE X e t) (i : ∀ σ H Q, t' σ H Q → t σ H Q) : PE X e t' := ⟨fun pins s σ H Q I q => h.run pins s σ H Q I (i σ H Q q)⟩
theorem DE.co {X : Cx} {G : Gd} {M : List Md} {k : Kd} {e : Expr} {m : Env' → Res D} (h : DE X G M k e m) : DE X G M .co e m := pe_imp h fun σ H Q ⟨g, O, env, sr, q⟩ => by
  refine ⟨g, O, env, sr, ?_⟩
  cases hm : m env with
  | ok d => rw [hm] at q; exact fun H' v s r => q H' v s r.co
  | exc c d => rw [hm] at q; exact q
  | err => rw [hm] at q; exact q
theorem DE.pl {X : Cx} {G : Gd} {M : List Md} {e : Expr} {m : Env' → Res D} (h : DE X G M .fr e m) : DE X G M .pl e m := pe_imp h fun σ H Q ⟨g, O, env, sr, q⟩ => by
  refine ⟨g, O, env, sr, ?_⟩
  cases hm : m env with
  | ok d => rw [hm] at q; exact fun H' v s r => q H' v s (r.pl sr.tr)
  | exc c d => rw [hm] at q; exact q
  | err => rw [hm] at q; exact q
end DL

namespace DL
open PySem PySem.Spec L2

def Res.of {α : Type} : Option α → Res α
  | some a => .ok a
  | none => .err
@[simp] theorem Res.of_some {α : Type} (a : α) : Res.of (some a) = .ok a := rfl
@[simp] theorem Res.of_none {α : Type} : (Res.of (none : Option α)) = .err := rfl

abbrev Trk (H : Hp) (O : AS) : Prop := ∀ a, O a → ∃ o, H a = some o ∧ Mut (some o)
theorem Trk.grow {H H' : Hp} {O : AS} (t : Trk H O) (s : Same H H') : Trk H' O := fun a h => let ⟨o, e, m⟩ := t a h; ⟨o, s _ _ e, m⟩
theorem Trk.not {H : Hp} {O : AS} (t : Trk H O) {p : Addr} (h : H p = none) : ¬ O p := fun z => by
  obtain ⟨o, e, _⟩ := t p z
  rw [h] at e; cases e
theorem same_new {H : Hp} {p : Addr} {o : HO} (h : H p = none) : Same H (upd H p o) := fun b u e => by
  rw [upd_ne (ne_of_none e h)]; exact e

theorem RK.back {k : Kd} {H H1 H' : Hp} {O : AS} {d : D} {v : V} (s : Same H H1) (r : RK k H1 O H' d v) : RK k H O H' d v := by
  cases k with
  | pl => exact r
  | co => exact r
  | fr => obtain ⟨a, e, n, q⟩ := r; exact ⟨a, e, s.free n, q⟩

section
variable {X : Cx} {G : Gd} {M : List Md} {k : Kd}
def B2 (k : Kd) (r : R2) (f : D → D → Option D) : Prop := ∀ {H : Hp} {O : AS} {x y : V} {dx dy d : D} {Q : VK}, Trk H O → Rc H O dx x → Rc H O dy y → f dx dy = some d →
  (∀ H' v, Same H H' → RK k H O H' d v → Q v H') → r x y H Q
def m2 (f : D → D → Option D) (ma mb : Env' → Res D) : Env' → Res D := fun env => (ma env).bind fun x => (mb env).bind fun y => Res.of (f x y)
theorem tOp_ok {r : R2} {f : D → D → Option D} {ma mb : Env' → Res D} (hB : B2 k r f) (σ : L2.St) (H : Hp) (Q : VK) (h : tE G M k (m2 f ma mb) σ H Q) : tOp r (tE G M .co ma) (tE G M .co mb) σ H Q := by
  obtain ⟨g, O, env, sr, q⟩ := h
  refine ⟨g, O, env, sr, ?_⟩
  unfold m2 at q
  cases ha : ma env with
  | err => rw [ha] at q; exact q
  | exc c d => rw [ha] at q; exact q
  | ok x =>
    rw [ha, Res.bind_ok] at q
    intro H1 v1 s1 r1
    refine ⟨g, O, env, sr.grow s1, ?_⟩
    cases hb : mb env with
    | err => rw [hb] at q; exact q
    | exc c d => rw [hb] at q; exact XW.grow s1 q
    | ok y =>
      rw [hb, Res.bind_ok] at q
      intro H2 v2 s2 r2
      cases hf : f x y with
      | none => rw [hf] at q; exact q.elim
      | some d =>
        rw [hf] at q
        exact hB (Trk.grow sr.tr (s1.trans s2)) (Rc.same s2 r1) r2 hf fun H' v s r => q H' v ((s1.trans s2).trans s) (RK.back (s1.trans s2) r)
def U1 (k : Kd) (r : V → Hp → VK → Prop) (f : D → Option D) : Prop := ∀ {H : Hp} {O : AS} {x : V} {dx d : D} {Q : VK}, Trk H O → Rc H O dx x → f dx = some d →
  (∀ H' v, Same H H' → RK k H O H' d v → Q v H') → r x H Q
def m1 (f : D → Option D) (ma : Env' → Res D) : Env' → Res D := fun env => (ma env).bind fun x => Res.of (f x)
theorem tUn_ok {r : V → Hp → VK → Prop} {f : D → Option D} {ma : Env' → Res D} (hB : U1 k r f) (σ : L2.St) (H : Hp) (Q : VK) (h : tE G M k (m1 f ma) σ H Q) : tUn r (tE G M .co ma) σ H Q := by
  obtain ⟨g, O, env, sr, q⟩ := h
  refine ⟨g, O, env, sr, ?_⟩
  unfold m1 at q
  cases ha : ma env with
  | err => rw [ha] at q; exact q
  | exc c d => rw [ha] at q; exact q
  | ok x =>
    rw [ha, Res.bind_ok] at q
    intro H1 v1 s1 r1
    cases hf : f x with
    | none => rw [hf] at q; exact q.elim
    | some d =>
      rw [hf] at q
      exact hB (Trk.grow sr.tr s1) r1 hf fun H' v s r => q H' v (s1.trans s) (RK.back s1 r)

/-! ### names and constants -/
def mVar (i : Nat) : Env' → Res D := fun env => match env[i]? with
  | some (some d) => .ok d
  | _ => .err
def mC (d : D) : Env' → Res D := fun _ => .ok d
/-- a frozen slot -/
theorem de_var {i : Nat} {e : Expr} (h : PE X e (tVar i)) (hm : M[i]? = some .fz) : DE X G M .pl e (mVar i) := pe_imp h fun σ H Q ⟨g, O, env, sr, q⟩ => by
  unfold mVar at q
  cases he : env[i]? with
  | none => rw [he] at q; exact q.elim
  | some o =>
    cases o with
    | none => rw [he] at q; exact q.elim
    | some d =>
      rw [he] at q
      obtain ⟨v, ev, r⟩ := sr.fz i d hm he
      exact ⟨v, ev, q H v (Same.refl H) r⟩
/-- an owned slot, looked at -/
theorem de_varO {i : Nat} {e : Expr} (h : PE X e (tVar i)) (hm : M[i]? = some .ow) : DE X G M .co e (mVar i) := pe_imp h fun σ H Q ⟨g, O, env, sr, q⟩ => by
  unfold mVar at q
  cases he : env[i]? with
  | none => rw [he] at q; exact q.elim
  | some o =>
    cases o with
    | none => rw [he] at q; exact q.elim
    | some d =>
      rw [he] at q
      obtain ⟨a, ev, _, _, r⟩ := sr.ow i d hm he
      exact ⟨_, ev, q H _ (Same.refl H) (.rt r)⟩
theorem de_c {e : Expr} {v : V} {d : D} (h : PE X e (tC v)) (r : ∀ H O, Rp H O d v) : DE X G M .pl e (mC d) := pe_imp h fun σ H Q ⟨g, O, env, sr, q⟩ => q H v (Same.refl H) (r H O)
theorem de_int {i : Int} {j pos} : DE X G M .pl (.Constant (.int i) j pos) (mC (.int i)) := de_c pe_int fun _ _ => .int i
theorem de_bl {b : Bool} {j pos} : DE X G M .pl (.Constant (.bool b) j pos) (mC (.bool b)) := de_c pe_bl fun _ _ => .bl b
theorem de_non {j pos} : DE X G M .pl (.Constant .none j pos) (mC .none) := de_c pe_non fun _ _ => .non
theorem de_str {x : Str} {j pos} : DE X G M .pl (.Constant (.str x) j pos) (mC (.str x)) := de_c pe_str fun _ _ => .str x

/-! ### operators -/
theorem Rc.int_inv {H : Hp} {O : AS} {i : Int} {v : V} (r : Rc H O (.int i) v) : v = .int i := by
  cases r with
  | of r => cases r; rfl
  | rt r => cases r
theorem Rc.str_inv {H : Hp} {O : AS} {x : Str} {v : V} (r : Rc H O (.str x) v) : v = .str x := by
  cases r with
  | of r => cases r; rfl
  | rt r => cases r
theorem Rc.bl_inv {H : Hp} {O : AS} {b : Bool} {v : V} (r : Rc H O (.bool b) v) : v = .bl b := by
  cases r with
  | of r => cases r; rfl
  | rt r => cases r
theorem Rc.non_inv {H : Hp} {O : AS} {v : V} (r : Rc H O .none v) : v = .non := by
  cases r with
  | of r => cases r; rfl
  | rt r => cases r
theorem Rc.list_inv {H : Hp} {O : AS} {ds : List D} {v : V} (r : Rc H O (.list ds) v) : ∃ a xs, v = .ref a ∧ Rd H a (.lst xs) ∧ RpA H O ds xs := by
  cases r with
  | of r => cases r with | lst h e q => exact ⟨_, _, rfl, e, q⟩
  | rt r => cases r with | lst e q => exact ⟨_, _, rfl, .inl e, q⟩
theorem Rc.tuple_inv {H : Hp} {O : AS} {ds : List D} {v : V} (r : Rc H O (.tuple ds) v) : ∃ a xs, v = .ref a ∧ Rd H a (.tup xs) ∧ RpA H O ds xs := by
  cases r with
  | of r => cases r with | tup h e q => exact ⟨_, _, rfl, e, q⟩
  | rt r => cases r
theorem Rd.seqL {K : PySem.W.Frag} {H : Hp} {a : Addr} {xs : List V} (r : L2.Rd H a (.lst xs)) : SqL K H a xs := .inl r
theorem Rd.seqT {K : PySem.W.Frag} {H : Hp} {a : Addr} {xs : List V} (r : L2.Rd H a (.tup xs)) : SqT K H a xs := .inl r
theorem RpA.length {H : Hp} {O : AS} : ∀ {ds : List D} {vs : List V}, RpA H O ds vs → ds.length = vs.length
  | _, _, .nil => rfl
  | _, _, .cons _ t => congrArg (· + 1) (RpA.length t)
theorem RpA.append {H : Hp} {O : AS} : ∀ {ds es : List D} {vs ws : List V}, RpA H O ds vs → RpA H O es ws → RpA H O (ds ++ es) (vs ++ ws)
  | _, _, _, _, .nil, t => t
  | _, _, _, _, .cons a b, t => .cons a (RpA.append b t)
theorem RpA.get {H : Hp} {O : AS} : ∀ {ds : List D} {vs : List V} {i : Nat} {d : D}, RpA H O ds vs → ds[i]? = some d → ∃ v, vs[i]? = some v ∧ Rp H O d v
  | _, _, i, _, .nil, e => by simp at e
  | _, _, 0, _, .cons a b, e => by simp at e; subst e; exact ⟨_, rfl, a⟩
  | _, _, i + 1, _, .cons a b, e => by
    simp only [List.getElem?_cons_succ] at e ⊢
    exact RpA.get b e
theorem RpA.take {H : Hp} {O : AS} : ∀ {ds : List D} {vs : List V} (n : Nat), RpA H O ds vs → RpA H O (ds.take n) (vs.take n)
  | _, _, 0, _ => by simpa using RpA.nil
  | _, _, n + 1, .nil => by simpa using RpA.nil
  | _, _, n + 1, .cons a b => by simpa using RpA.cons a (RpA.take n b)
theorem RpA.drop {H : Hp} {O : AS} : ∀ {ds : List D} {vs : List V} (n : Nat), RpA H O ds vs → RpA H O (ds.drop n) (vs.drop n)
  | _, _, 0, h => by simpa using h
  | _, _, n + 1, .nil => by simpa using RpA.nil
  | _, _, n + 1, .cons a b => by simpa using RpA.drop n b
theorem RpA.set {H : Hp} {O : AS} {d : D} {v : V} (r : Rp H O d v) : ∀ {ds : List D} {vs : List V} (n : Nat), RpA H O ds vs → RpA H O (ds.set n d) (vs.set n v)
  | _, _, n, .nil => by simpa using RpA.nil
  | _, _, 0, .cons a b => by simpa using RpA.cons r b
  | _, _, n + 1, .cons a b => by simpa using RpA.cons a (RpA.set r n b)
theorem RpA.reverse {H : Hp} {O : AS} : ∀ {ds : List D} {vs : List V}, RpA H O ds vs → RpA H O ds.reverse vs.reverse
  | _, _, .nil => .nil
  | _, _, .cons a b => by simpa using (RpA.reverse b).append (.cons a .nil)

/-- a new list at p, its items -/
theorem fr_list {H : Hp} {O : AS} {p : Addr} {ds : List D} {vs : List V} (tr : Trk H O) (hp : H p = none) (r : RpA H O ds vs) : RK .fr H O (upd H p (.lst vs)) (.list ds) (.ref p) :=
  ⟨p, rfl, hp, .lst upd_same (r.mono ((Sub.more hp).trans (Sub.same (same_new hp) _)))⟩
theorem pl_list {H : Hp} {O : AS} {p : Addr} {ds : List D} {vs : List V} (tr : Trk H O) (hp : H p = none) (r : RpA H O ds vs) : Rp (upd H p (.lst vs)) O (.list ds) (.ref p) :=
  RK.pl tr (fr_list tr hp r)
theorem pl_tup {H : Hp} {O : AS} {p : Addr} {ds : List D} {vs : List V} (tr : Trk H O) (hp : H p = none) (r : RpA H O ds vs) : Rp (upd H p (.tup vs)) O (.tuple ds) (.ref p) :=
  .tup (tr.not hp) (.inl upd_same) (r.mono (Sub.same (same_new hp) _))

/-- list + list, read in any way -/
def rCat2 : R2 := fun x y H Q => ∃ l b xs zs, x = .ref l ∧ y = .ref b ∧ L2.Rd H l (.lst xs) ∧ L2.Rd H b (.lst zs) ∧ xs.length + zs.length ≤ sizeLine ∧ ∀ p, H p = none → Q (.ref p) (upd H p (.lst (xs ++ zs)))
theorem op_cat2 : OpR X (binaryOp .Add) rCat2 := by
  intro pins s σ H x y v u Q I rx ry h
  obtain ⟨l, b, xs, zs, rfl, rfl, hH, hB, hz, q⟩ := h
  cases rx
  cases ry
  obtain ⟨z, its, n, r, e⟩ := hH.ok I.hok
  obtain ⟨z2, its2, n2, r2, e2⟩ := hB.ok I.hok
  have hl := r.length
  have hl2 := r2.length
  refine PySem.P.add_list e e2 ?_ (by rw [List.size_toArray, List.size_toArray]; omega)
  have ea : its.toArray ++ its2.toArray = (its ++ its2).toArray := by simp
  rw [ea]
  exact ⟨.ref _, _, I.lnew (t' := s.toks) (r.append r2) (by rw [List.length_append]; omega), rfl, q _ I.fresh⟩
end
end DL

namespace DL
open PySem PySem.Spec L2
section
variable {X : Cx} {G : Gd} {M : List Md} {k : Kd} {ka kb kc : Kd} {a b c : Expr} {ma mb mc : Env' → Res D} {pos : Pos}

/-! ### binary operators -/
theorem de_op {op : Operator} {r : R2} {f : D → D → Option D} (ho : OpR X (binaryOp op) r) (hB : B2 k r f) (ha : DE X G M ka a ma) (hb : DE X G M kb b mb) : DE X G M k (.BinOp a op b pos) (m2 f ma mb) :=
  pe_imp (pe_op ho ha.co hb.co) (tOp_ok hB)
def addD : D → D → Option D
  | .int i, .int j => some (.int (i + j))
  | .str x, .str y => if x.length + y.length ≤ sizeLine then some (.str (x ++ y)) else none
  | .list x, .list y => if x.length + y.length ≤ sizeLine then some (.list (x ++ y)) else none
  | .tuple x, .tuple y => if x.length + y.length ≤ sizeLine then some (.tuple (x ++ y)) else none
  | _, _ => none
def rAddS : R2 := fun x y H Q => ∃ i j, x = .str i ∧ y = .str j ∧ i.length + j.length ≤ sizeLine ∧ Q (.str (i ++ j)) H
def rAddAll (K : PySem.W.Frag) : R2 := fun x y H Q => rI0 (fun i j => .int (i + j)) x y H Q ∨ rAddS x y H Q ∨ rCat2 x y H Q ∨ rCatA K x y H Q
theorem op_addAll : OpR X (binaryOp .Add) (rAddAll X.K) := op_add.or (op_add_str.or (op_cat2.or op_catA))
theorem RpA.nil_iff {H : Hp} {O : AS} {ds : List D} {vs : List V} (r : RpA H O ds vs) : ds = [] ↔ vs = [] := by
  cases r <;> simp
theorem b2_add : B2 .pl (rAddAll X.K) addD := by
  intro H O x y dx dy d Q tr rx ry hf q
  cases dx <;> cases dy <;> simp only [addD] at hf <;> try cases hf
  case int.int i j =>
    cases rx.int_inv; cases ry.int_inv
    exact .inl ⟨i, j, rfl, rfl, q H _ (Same.refl H) (.int _)⟩
  case str.str i j =>
    cases rx.str_inv; cases ry.str_inv
    split at hf <;> cases hf
    rename_i hz
    exact .inr (.inl ⟨i, j, rfl, rfl, hz, q H _ (Same.refl H) (.str _)⟩)
  case list.list ds es =>
    obtain ⟨p, xs, rfl, e1, r1⟩ := rx.list_inv
    obtain ⟨p2, ys, rfl, e2, r2⟩ := ry.list_inv
    split at hf <;> cases hf
    rename_i hz
    exact .inr (.inr (.inl ⟨p, p2, xs, ys, rfl, rfl, e1, e2, by rw [← r1.length, ← r2.length]; exact hz, fun l hl => q _ _ (same_new hl) (pl_list tr hl (r1.append r2))⟩))
  case tuple.tuple ds es =>
    obtain ⟨p, xs, rfl, e1, r1⟩ := rx.tuple_inv
    obtain ⟨p2, ys, rfl, e2, r2⟩ := ry.tuple_inv
    split at hf <;> cases hf
    rename_i hz
    refine .inr (.inr (.inr ⟨p, p2, xs, ys, rfl, rfl, Rd.seqT e1, Rd.seqT e2, by rw [← r1.length, ← r2.length]; exact hz, fun hx => ?_, fun _ hy => ?_, fun _ _ l hl => q _ _ (same_new hl) (pl_tup tr hl (r1.append r2))⟩))
    · have : ds = [] := r1.nil_iff.mpr hx
      subst this
      cases ry with
      | of r => exact q H _ (Same.refl H) r
      | rt r => cases r
    · have : es = [] := r2.nil_iff.mpr hy
      subst this
      rw [List.append_nil] at q
      cases rx with
      | of r => exact q H _ (Same.refl H) r
      | rt r => cases r
/-- a list made by +, owned -/
theorem b2_cat : B2 .fr rCat2 (fun x y => match x, y with | .list x, .list y => if x.length + y.length ≤ sizeLine then some (.list (x ++ y)) else none | _, _ => none) := by
  intro H O x y dx dy d Q tr rx ry hf q
  cases dx <;> cases dy <;> simp only at hf <;> try cases hf
  case list.list ds es =>
    obtain ⟨p, xs, rfl, e1, r1⟩ := rx.list_inv
    obtain ⟨p2, ys, rfl, e2, r2⟩ := ry.list_inv
    split at hf <;> cases hf
    rename_i hz
    exact ⟨p, p2, xs, ys, rfl, rfl, e1, e2, by rw [← r1.length, ← r2.length]; exact hz, fun l hl => q _ _ (same_new hl) (fr_list tr hl (r1.append r2))⟩
theorem de_add (ha : DE X G M ka a ma) (hb : DE X G M kb b mb) : DE X G M .pl (.BinOp a .Add b pos) (m2 addD ma mb) := de_op op_addAll b2_add ha hb
theorem b2_ints {g : Int → Int → Int} {C : Int → Int → Prop} [∀ i j, Decidable (C i j)] : B2 .pl (rI C fun i j => .int (g i j)) (fun x y => match x, y with | .int i, .int j => if C i j then some (.int (g i j)) else none | _, _ => none) := by
  intro H O x y dx dy d Q tr rx ry hf q
  cases dx <;> cases dy <;> simp only at hf <;> try cases hf
  case int.int i j =>
    cases rx.int_inv; cases ry.int_inv
    split at hf <;> cases hf
    rename_i hc
    exact ⟨i, j, rfl, rfl, hc, q H _ (Same.refl H) (.int _)⟩
def subD : D → D → Option D
  | .int i, .int j => some (.int (i - j))
  | _, _ => none
theorem b2_sub : B2 .pl (rI0 fun i j => .int (i - j)) subD := by
  intro H O x y dx dy d Q tr rx ry hf q
  cases dx <;> cases dy <;> simp only [subD] at hf <;> try cases hf
  case int.int i j =>
    cases rx.int_inv; cases ry.int_inv
    exact ⟨i, j, rfl, rfl, q H _ (Same.refl H) (.int _)⟩
theorem de_sub (ha : DE X G M ka a ma) (hb : DE X G M kb b mb) : DE X G M .pl (.BinOp a .Sub b pos) (m2 subD ma mb) := de_op op_sub b2_sub ha hb
instance decMul (i j : Int) : Decidable (CMul i j) := by unfold CMul; exact inferInstance
instance decDiv (i j : Int) : Decidable (CDiv i j) := by unfold CDiv; exact inferInstance
instance decPow (i j : Int) : Decidable (CPow i j) := by unfold CPow; exact inferInstance
def repS (x : Str) (n : Nat) : Str := ⟨(List.replicate n x.cps.toList).flatten.toArray⟩
def mulD : D → D → Option D
  | .int i, .int j => if CMul i j then some (.int (i * j)) else none
  | .list xs, .int j => if -(2 ^ 63) ≤ j ∧ j < 2 ^ 63 ∧ xs.length * j.toNat ≤ sizeLine then some (.list (List.replicate j.toNat xs).flatten) else none
  | _, _ => none
def rRep2 : R2 := fun x y H Q => ∃ l k xs, x = .ref l ∧ y = .int k ∧ L2.Rd H l (.lst xs) ∧ -(2 ^ 63) ≤ k ∧ k < 2 ^ 63 ∧ xs.length * k.toNat ≤ sizeLine ∧
  ∀ p, H p = none → Q (.ref p) (upd H p (.lst (List.replicate k.toNat xs).flatten))
def modD : D → D → Option D
  | .int i, .int j => if 0 < j then some (.int (i % j)) else none
  | _, _ => none
theorem b2_mod : B2 .pl (rI (fun _ j => 0 < j) fun i j => .int (i % j)) modD := b2_ints
def fdivD : D → D → Option D
  | .int i, .int j => if CDiv i j then some (.int (i / j)) else none
  | _, _ => none
theorem b2_fdiv : B2 .pl (rI CDiv fun i j => .int (i / j)) fdivD := b2_ints
def powD : D → D → Option D
  | .int i, .int j => if CPow i j then some (.int (i ^ j.toNat)) else none
  | _, _ => none
theorem b2_pow : B2 .pl (rI CPow fun i j => .int (i ^ j.toNat)) powD := b2_ints
def mulI : D → D → Option D
  | .int i, .int j => if CMul i j then some (.int (i * j)) else none
  | _, _ => none
theorem b2_mulI : B2 .pl (rI CMul fun i j => .int (i * j)) mulI := b2_ints
theorem de_mod (ha : DE X G M ka a ma) (hb : DE X G M kb b mb) : DE X G M .pl (.BinOp a .Mod b pos) (m2 modD ma mb) := de_op op_mod b2_mod ha hb
theorem de_fdiv (ha : DE X G M ka a ma) (hb : DE X G M kb b mb) : DE X G M .pl (.BinOp a .FloorDiv b pos) (m2 fdivD ma mb) := de_op op_fdiv b2_fdiv ha hb
theorem de_pow (ha : DE X G M ka a ma) (hb : DE X G M kb b mb) : DE X G M .pl (.BinOp a .Pow b pos) (m2 powD ma mb) := de_op op_pow b2_pow ha hb
theorem de_mulI (ha : DE X G M ka a ma) (hb : DE X G M kb b mb) : DE X G M .pl (.BinOp a .Mult b pos) (m2 mulI ma mb) := de_op op_mul b2_mulI ha hb
def negD : D → Option D
  | .int i => some (.int (-i))
  | _ => none
theorem u1_neg : U1 .pl (rU fun i => .int (-i)) negD := by
  intro H O x dx d Q tr rx hf q
  cases dx <;> simp only [negD] at hf <;> try cases hf
  cases rx.int_inv
  exact ⟨_, rfl, q H _ (Same.refl H) (.int _)⟩
theorem de_neg (ha : DE X G M ka a ma) : DE X G M .pl (.UnaryOp .USub a pos) (m1 negD ma) := pe_imp (pe_un un_neg ha.co) (tUn_ok u1_neg)

/-! ### comparisons -/
theorem de_cmp {op : CmpOp} {r : R2} {f : D → D → Option D} (ho : OpR X (compareOp op) r) (hB : B2 k r f) (ha : DE X G M ka a ma) (hb : DE X G M kb b mb) (hm : behindInMarks op b = false) : DE X G M k (.Compare a [op] [b] pos) (m2 f ma mb) :=
  pe_imp (pe_cmpR ho ha.co hb.co hm) (tOp_ok hB)
theorem b2_cmpI {p : Int → Int → Bool} {f : D → D → Option D} (hf : ∀ x y d, f x y = some d → ∃ i j, x = .int i ∧ y = .int j ∧ d = .bool (p i j)) : B2 .pl (rI0 fun i j => .bl (p i j)) f := by
  intro H O x y dx dy d Q tr rx ry e q
  obtain ⟨i, j, rfl, rfl, rfl⟩ := hf _ _ _ e
  cases rx.int_inv; cases ry.int_inv
  exact ⟨i, j, rfl, rfl, q H _ (Same.refl H) (.bl _)⟩
def cmpI (p : Int → Int → Bool) : D → D → Option D
  | .int i, .int j => some (.bool (p i j))
  | _, _ => none
theorem cmpI_inv {p : Int → Int → Bool} (x y d : D) (h : cmpI p x y = some d) : ∃ i j, x = .int i ∧ y = .int j ∧ d = .bool (p i j) := by
  cases x <;> cases y <;> simp only [cmpI] at h <;> cases h
  exact ⟨_, _, rfl, rfl, rfl⟩
abbrev ltI := cmpI fun i j => decide (i < j)
abbrev leI := cmpI fun i j => decide (i ≤ j)
abbrev gtI := cmpI fun i j => decide (j < i)
abbrev geI := cmpI fun i j => decide (j ≤ i)
theorem b2_lt : B2 .pl (rI0 fun i j => .bl (decide (i < j))) ltI := b2_cmpI cmpI_inv
theorem b2_le : B2 .pl (rI0 fun i j => .bl (decide (i ≤ j))) leI := b2_cmpI cmpI_inv
theorem b2_gt : B2 .pl (rI0 fun i j => .bl (decide (j < i))) gtI := b2_cmpI cmpI_inv
theorem b2_ge : B2 .pl (rI0 fun i j => .bl (decide (j ≤ i))) geI := b2_cmpI cmpI_inv
theorem de_lt (ha : DE X G M ka a ma) (hb : DE X G M kb b mb) : DE X G M .pl (.Compare a [.Lt] [b] pos) (m2 ltI ma mb) := de_cmp op_lt b2_lt ha hb (nomark _)
theorem de_le (ha : DE X G M ka a ma) (hb : DE X G M kb b mb) : DE X G M .pl (.Compare a [.LtE] [b] pos) (m2 leI ma mb) := de_cmp op_le b2_le ha hb (nomark _)
theorem de_gt (ha : DE X G M ka a ma) (hb : DE X G M kb b mb) : DE X G M .pl (.Compare a [.Gt] [b] pos) (m2 gtI ma mb) := de_cmp op_gt b2_gt ha hb (nomark _)
theorem de_ge (ha : DE X G M ka a ma) (hb : DE X G M kb b mb) : DE X G M .pl (.Compare a [.GtE] [b] pos) (m2 geI ma mb) := de_cmp op_ge b2_ge ha hb (nomark _)

/-! deep data -/
mutual
theorem Rp.dp {K : PySem.W.Frag} {H : Hp} {O : AS} : ∀ {d : D} {v : V}, Rp H O d v → PyData.canLay0 d = true → Dp K H v d
  | _, _, .non, _ => .non
  | _, _, .bl b, _ => .bl b
  | _, _, .int i, _ => .int i
  | _, _, .str x, _ => .str x
  | _, _, .lst _ r q, h => .lst (Rd.seqL r) (RpA.dp q h)
  | _, _, .tup _ r q, h => .tup (Rd.seqT r) (RpA.dp q h)
  | _, _, .dK _ _ _, h => nomatch h
  | _, _, .dT _ _ _, h => nomatch h
theorem RpA.dp {K : PySem.W.Frag} {H : Hp} {O : AS} : ∀ {ds : List D} {vs : List V}, RpA H O ds vs → PyData.canLayAll0 ds = true → DpAll K H vs ds
  | _, _, .nil, _ => .nil
  | _, _, .cons a b, h => .cons (Rp.dp a (Bool.and_eq_true_iff.mp h).1) (RpA.dp b (Bool.and_eq_true_iff.mp h).2)
end
theorem Rc.dp {K : PySem.W.Frag} {H : Hp} {O : AS} {d : D} {v : V} (r : Rc H O d v) (h : PyData.canLay0 d = true) : Dp K H v d := by
  cases r with
  | of r => exact r.dp h
  | rt r =>
    cases r with
    | lst e q => exact .lst (.inl (.inl e)) (q.dp h)
    | dK e q => cases h
    | dT e q => cases h
theorem canLay_of_shaped {d : D} (h : SeqAt.shaped d = true) : PyData.canLay0 d = true := SeqAt.canLay_of_shaped h
/-- == of data; ints and texts need no shape -/
def eqB : D → D → Option Bool
  | .int i, .int j => some (decide (i = j))
  | .str i, .str j => some (decide (i = j))
  | .bool i, .bool j => some (decide (i = j))
  | .none, .none => some true
  | .none, .int _ => some false
  | .int _, .none => some false
  | .none, .str _ => some false
  | .str _, .none => some false
  | .int _, .str _ => some false
  | .str _, .int _ => some false
  | x, y => if SeqAt.shaped x && SeqAt.shaped y then some (PyData.eqv x y) else none
def eqD (x y : D) : Option D := (eqB x y).map .bool
def neD (x y : D) : Option D := (eqB x y).map fun b => .bool !b
def rEqA (K : PySem.W.Frag) : R2 := fun x y H Q => rEq x y H Q ∨ rEqD K x y H Q
def rNeA (K : PySem.W.Frag) : R2 := fun x y H Q => rNe x y H Q ∨ rNeD K x y H Q
theorem eqB_ok {K : PySem.W.Frag} {H : Hp} {O : AS} {x y : V} {dx dy : D} {t : Bool} (rx : Rc H O dx x) (ry : Rc H O dy y) (h : eqB dx dy = some t) :
    (scal x y = true ∧ decide (x = y) = t) ∨ ∃ d e, Dp K H x d ∧ Dp K H y e ∧ SeqAt.shaped d = true ∧ SeqAt.shaped e = true ∧ PyData.eqv d e = t := by
  unfold eqB at h
  split at h
  · cases rx.int_inv; cases ry.int_inv; cases h; exact .inl ⟨rfl, by simp⟩
  · cases rx.str_inv; cases ry.str_inv; cases h; exact .inl ⟨rfl, by simp⟩
  · cases rx.bl_inv; cases ry.bl_inv; cases h; exact .inl ⟨rfl, by simp⟩
  · cases rx.non_inv; cases ry.non_inv; cases h; exact .inl ⟨rfl, by simp⟩
  · cases rx.non_inv; cases ry.int_inv; cases h; exact .inl ⟨rfl, by simp⟩
  · cases rx.int_inv; cases ry.non_inv; cases h; exact .inl ⟨rfl, by simp⟩
  · cases rx.non_inv; cases ry.str_inv; cases h; exact .inl ⟨rfl, by simp⟩
  · cases rx.str_inv; cases ry.non_inv; cases h; exact .inl ⟨rfl, by simp⟩
  · cases rx.int_inv; cases ry.str_inv; cases h; exact .inl ⟨rfl, by simp⟩
  · cases rx.str_inv; cases ry.int_inv; cases h; exact .inl ⟨rfl, by simp⟩
  · split at h
    · rename_i hs
      cases h
      have h1 := (Bool.and_eq_true_iff.mp hs).1
      have h2 := (Bool.and_eq_true_iff.mp hs).2
      exact .inr ⟨_, _, rx.dp (canLay_of_shaped h1), ry.dp (canLay_of_shaped h2), h1, h2, rfl⟩
    · cases h
theorem b2_eq : B2 .pl (rEqA X.K) eqD := by
  intro H O x y dx dy d Q tr rx ry hf q
  unfold eqD at hf
  cases e : eqB dx dy with
  | none => rw [e] at hf; cases hf
  | some t =>
    rw [e] at hf
    cases hf
    rcases eqB_ok (K := X.K) rx ry e with ⟨h1, h2⟩ | ⟨d, e, h1, h2, h3, h4, h5⟩
    · exact .inl ⟨h1, by rw [h2]; exact q H _ (Same.refl H) (.bl _)⟩
    · exact .inr ⟨d, e, h1, h2, h3, h4, by rw [h5]; exact q H _ (Same.refl H) (.bl _)⟩
theorem b2_ne : B2 .pl (rNeA X.K) neD := by
  intro H O x y dx dy d Q tr rx ry hf q
  unfold neD at hf
  cases e : eqB dx dy with
  | none => rw [e] at hf; cases hf
  | some t =>
    rw [e] at hf
    cases hf
    rcases eqB_ok (K := X.K) rx ry e with ⟨h1, h2⟩ | ⟨d, e, h1, h2, h3, h4, h5⟩
    · exact .inl ⟨h1, by rw [h2]; exact q H _ (Same.refl H) (.bl _)⟩
    · exact .inr ⟨d, e, h1, h2, h3, h4, by rw [h5]; exact q H _ (Same.refl H) (.bl _)⟩
theorem de_eq (hu : X.A.units + 64 < cLine) (ha : DE X G M ka a ma) (hb : DE X G M kb b mb) : DE X G M .pl (.Compare a [.Eq] [b] pos) (m2 eqD ma mb) := de_cmp (op_eq.or (op_eqD hu)) b2_eq ha hb (nomark _)
theorem de_ne (hu : X.A.units + 64 < cLine) (ha : DE X G M ka a ma) (hb : DE X G M kb b mb) : DE X G M .pl (.Compare a [.NotEq] [b] pos) (m2 neD ma mb) := de_cmp (op_ne.or (op_neD hu)) b2_ne ha hb (nomark _)
def isN : D → D → Option D
  | .none, .none => some (.bool true)
  | _, .none => some (.bool false)
  | _, _ => none
end
end DL

namespace DL
open PySem PySem.Spec L2
section
variable {X : Cx} {G : Gd} {M : List Md} {k : Kd} {ka kb kc : Kd} {a b c e : Expr} {ma mb mc m : Env' → Res D} {pos : Pos}

/-! ### is None -/
def isND (d : D) : Bool := match d with | .none => true | _ => false
theorem V_non_iff {H : Hp} {O : AS} {d : D} {v : V} (r : Rc H O d v) : decide (v = .non) = isND d := by
  cases r with
  | of r => cases r <;> simp [isND]
  | rt r => cases r <;> simp [isND]
theorem b2_isN : B2 .pl (fun x y H Q => y = .non ∧ Q (.bl (decide (x = .non))) H) (fun x y => match y with | .none => some (.bool (isND x)) | _ => none) := by
  intro H O x y dx dy d Q tr rx ry hf q
  cases dy <;> simp only at hf <;> cases hf
  exact ⟨ry.non_inv, by rw [V_non_iff rx]; exact q H _ (Same.refl H) (.bl _)⟩
theorem b2_notN : B2 .pl (fun x y H Q => y = .non ∧ Q (.bl (!decide (x = .non))) H) (fun x y => match y with | .none => some (.bool (!isND x)) | _ => none) := by
  intro H O x y dx dy d Q tr rx ry hf q
  cases dy <;> simp only at hf <;> cases hf
  exact ⟨ry.non_inv, by rw [V_non_iff rx]; exact q H _ (Same.refl H) (.bl _)⟩
def mIsN (m : Env' → Res D) : Env' → Res D := fun env => (m env).bind fun x => .ok (.bool (isND x))
def mNotN (m : Env' → Res D) : Env' → Res D := fun env => (m env).bind fun x => .ok (.bool (!isND x))
theorem de_isN {j pos'} (ha : DE X G M ka a ma) : DE X G M .pl (.Compare a [.Is] [.Constant .none j pos'] pos) (mIsN ma) := de_cmp op_isN b2_isN ha de_non (nomark _)
theorem de_notN {j pos'} (ha : DE X G M ka a ma) : DE X G M .pl (.Compare a [.IsNot] [.Constant .none j pos'] pos) (mNotN ma) := de_cmp op_notN b2_notN ha de_non (nomark _)

/-! ### in: lists, tuples, texts -/
/-- the subtext at its first places -/
def inS (x y : Str) : Bool := !(Builtin.Str.occurrences y x 0 y.length 1).isEmpty
def inB : D → D → Option Bool
  | d, .list ds => if SeqAt.shaped d && SeqAt.shaped (.list ds) then some (ds.any fun z => PyData.eqv z d) else none
  | .str x, .str y => some (inS x y)
  | _, _ => none
def inD (x y : D) : Option D := (inB x y).map .bool
def notInD (x y : D) : Option D := (inB x y).map fun b => .bool !b
theorem inB_ok {K : PySem.W.Frag} {H : Hp} {O : AS} {x y : V} {dx dy : D} {t : Bool} (rx : Rc H O dx x) (ry : Rc H O dy y) (h : inB dx dy = some t) :
    (∃ d ds, Dp K H x d ∧ Dp K H y (.list ds) ∧ SeqAt.shaped d = true ∧ SeqAt.shaped (.list ds) = true ∧ (ds.any fun z => PyData.eqv z d) = t) ∨ ∃ i j, x = .str i ∧ y = .str j ∧ inS i j = t := by
  unfold inB at h
  split at h
  · split at h
    · rename_i hs
      cases h
      have h1 := (Bool.and_eq_true_iff.mp hs).1
      have h2 := (Bool.and_eq_true_iff.mp hs).2
      exact .inl ⟨_, _, rx.dp (canLay_of_shaped h1), ry.dp (canLay_of_shaped h2), h1, h2, rfl⟩
    · cases h
  · cases h
    exact .inr ⟨_, _, rx.str_inv, ry.str_inv, rfl⟩
  · cases h
theorem b2_in : B2 .pl (fun x y H Q => rInD X.K x y H Q ∨ ∃ i j, x = .str i ∧ y = .str j ∧ Q (.bl (!(Builtin.Str.occurrences j i 0 j.length 1).isEmpty)) H) inD := by
  intro H O x y dx dy d Q tr rx ry hf q
  unfold inD at hf
  cases e : inB dx dy with
  | none => rw [e] at hf; cases hf
  | some t =>
    rw [e] at hf
    cases hf
    rcases inB_ok (K := X.K) rx ry e with ⟨d, ds, h1, h2, h3, h4, h5⟩ | ⟨i, j, h1, h2, h3⟩
    · exact .inl ⟨d, ds, h1, h2, h3, h4, by rw [h5]; exact q H _ (Same.refl H) (.bl _)⟩
    · exact .inr ⟨i, j, h1, h2, by unfold inS at h3; rw [h3]; exact q H _ (Same.refl H) (.bl _)⟩
theorem b2_notIn : B2 .pl (fun x y H Q => rNotInD X.K x y H Q ∨ ∃ i j, x = .str i ∧ y = .str j ∧ Q (.bl (!(!(Builtin.Str.occurrences j i 0 j.length 1).isEmpty))) H) notInD := by
  intro H O x y dx dy d Q tr rx ry hf q
  unfold notInD at hf
  cases e : inB dx dy with
  | none => rw [e] at hf; cases hf
  | some t =>
    rw [e] at hf
    cases hf
    rcases inB_ok (K := X.K) rx ry e with ⟨d, ds, h1, h2, h3, h4, h5⟩ | ⟨i, j, h1, h2, h3⟩
    · exact .inl ⟨d, ds, h1, h2, h3, h4, by rw [h5]; exact q H _ (Same.refl H) (.bl _)⟩
    · exact .inr ⟨i, j, h1, h2, by unfold inS at h3; rw [h3]; exact q H _ (Same.refl H) (.bl _)⟩
theorem de_in (hu : X.A.units + 65 < cLine) (ha : DE X G M ka a ma) (hb : DE X G M kb b mb) (hm : behindInMarks .In b = false := by rfl) : DE X G M .pl (.Compare a [.In] [b] pos) (m2 inD ma mb) := de_cmp ((op_inD hu).or op_in_str) b2_in ha hb hm
theorem de_notIn (hu : X.A.units + 65 < cLine) (ha : DE X G M ka a ma) (hb : DE X G M kb b mb) (hm : behindInMarks .NotIn b = false := by rfl) : DE X G M .pl (.Compare a [.NotIn] [b] pos) (m2 notInD ma mb) := de_cmp ((op_notInD hu).or op_notin_str) b2_notIn ha hb hm

/-! ### subscripts, slices -/
def ixD : D → D → Option D
  | .list ds, .int i => atI ds i
  | .tuple ds, .int i => atI ds i
  | .str x, .int i => if x.length ≤ sizeLine then (atI x.cps.toList i).map fun c => .str ⟨#[c]⟩ else none
  | _, _ => none
theorem RpA.atI {H : Hp} {O : AS} {ds : List D} {vs : List V} {i : Int} {d : D} (r : RpA H O ds vs) (h : L2.atI ds i = some d) : ∃ v, L2.atI vs i = some v ∧ Rp H O d v := by
  unfold L2.atI at h ⊢
  rw [r.length] at h
  cases e : ixN vs.length i with
  | none => rw [e] at h; cases h
  | some j =>
    rw [e] at h
    exact r.get h
theorem b2_ix : B2 .pl (rIx X.K) ixD := by
  intro H O x y dx dy d Q tr rx ry hf q
  unfold ixD at hf
  split at hf
  · obtain ⟨p, xs, rfl, e1, r1⟩ := rx.list_inv
    cases ry.int_inv
    obtain ⟨v, hv, rv⟩ := r1.atI hf
    exact .inl ⟨p, xs, _, v, rfl, rfl, Rd.seqL e1, hv, q H _ (Same.refl H) rv⟩
  · obtain ⟨p, xs, rfl, e1, r1⟩ := rx.tuple_inv
    cases ry.int_inv
    obtain ⟨v, hv, rv⟩ := r1.atI hf
    exact .inr (.inl ⟨p, xs, _, v, rfl, rfl, Rd.seqT e1, hv, q H _ (Same.refl H) rv⟩)
  · cases rx.str_inv; cases ry.int_inv
    split at hf
    · rename_i x i hz
      cases hc : atI x.cps.toList i with
      | none => rw [hc] at hf; cases hf
      | some c =>
        rw [hc] at hf; cases hf
        exact .inr (.inr ⟨_, _, c, rfl, rfl, hz, hc, q H _ (Same.refl H) (.str _)⟩)
    · cases hf
  · cases hf
theorem de_ix (ha : DE X G M ka a ma) (hb : DE X G M kb b mb) (hs : PlainIx b) : DE X G M .pl (.Subscript a b pos) (m2 ixD ma mb) := pe_imp (pe_ix ix_seq ha.co hb.co hs) (tOp_ok b2_ix)

/-- a part of a slice -/
def tO (G : Gd) (M : List Md) (m : Env' → Res (Option Int)) : TO := fun σ H Q => ∃ (g : Gr G.ex) (O : AS) (env : Env'), SR g.H0 g.O0 M O env σ H ∧ match m env with
  | .ok o => ∀ H', Same H H' → Q o H'
  | .exc c d => XW G O σ H c d
  | .err => False
def DO (X : Cx) (G : Gd) (M : List Md) (e : Option Expr) (m : Env' → Res (Option Int)) : Prop := PO X e (tO G M m)
theorem po_imp {X : Cx} {e : Option Expr} {t t' : TO} (h : PO X e t) (i : ∀ σ H Q, t' σ H Q → t σ H Q) : PO X e t' := ⟨fun pins s σ H Q I q => h.run pins s σ H Q I (i σ H Q q)⟩
def mPart (m : Env' → Res D) : Env' → Res (Option Int) := fun env => (m env).bind fun d => match d with
  | .int i => .ok (some i)
  | _ => .err
def mNoPart : Env' → Res (Option Int) := fun _ => .ok none
theorem do_none : DO X G M none mNoPart := po_imp po_none fun σ H Q ⟨g, O, env, sr, q⟩ => q H (Same.refl H)
theorem do_some (ha : DE X G M ka a ma) : DO X G M (some a) (mPart ma) := po_imp (po_some ha.co) fun σ H Q ⟨g, O, env, sr, q⟩ => by
  refine ⟨g, O, env, sr, ?_⟩
  unfold mPart at q
  cases h : ma env with
  | err => rw [h] at q; exact q
  | exc c d => rw [h] at q; exact q
  | ok d =>
    rw [h, Res.bind_ok] at q
    intro H' v s r
    cases d <;> simp only at q
    case int i => exact ⟨i, Rc.int_inv r, q H' s⟩
/-- the items lo:hi -/
def cut {α : Type} (xs : List α) (lo hi : Option Int) : List α := (xs.drop (HT.sIx xs.length 0 lo)).take (HT.sIx xs.length xs.length hi - HT.sIx xs.length 0 lo)
def slD : D → Option Int → Option Int → Option D
  | .list ds, lo, hi => some (.list (cut ds lo hi))
  | .tuple ds, lo, hi => some (.tuple (cut ds lo hi))
  | .str x, lo, hi => if x.length ≤ sizeLine then some (.str ⟨(cut x.cps.toList lo hi).toArray⟩) else none
  | _, _, _ => none
theorem RpA.cut {H : Hp} {O : AS} {ds : List D} {vs : List V} (r : RpA H O ds vs) (lo hi : Option Int) : RpA H O (DL.cut ds lo hi) (cutV vs lo hi) := by
  unfold DL.cut cutV
  rw [r.length]
  exact (r.drop _).take _
def rSlAll (K : PySem.W.Frag) : V → Option Int → Option Int → Hp → VK → Prop := fun x lo hi H Q => rSlL K x lo hi H Q ∨ rSlA K x lo hi H Q ∨ rSlS x lo hi H Q
theorem sl_all : SlR X (rSlAll X.K) := sl_list.or (sl_tupA.or sl_str)
def m3 (f : D → Option Int → Option Int → Option D) (ma : Env' → Res D) (ml mh : Env' → Res (Option Int)) : Env' → Res D := fun env => (ma env).bind fun x => (ml env).bind fun l => (mh env).bind fun h => Res.of (f x l h)
def S3 (k : Kd) (r : V → Option Int → Option Int → Hp → VK → Prop) (f : D → Option Int → Option Int → Option D) : Prop := ∀ {H : Hp} {O : AS} {x : V} {dx d : D} {lo hi : Option Int} {Q : VK}, Trk H O → Rc H O dx x → f dx lo hi = some d →
  (∀ H' v, Same H H' → RK k H O H' d v → Q v H') → r x lo hi H Q
theorem s3_all : S3 .pl (rSlAll X.K) slD := by
  intro H O x dx d lo hi Q tr rx hf q
  unfold slD at hf
  split at hf
  · cases hf
    obtain ⟨p, xs, rfl, e1, r1⟩ := rx.list_inv
    exact .inl ⟨p, xs, rfl, Rd.seqL e1, fun l hl => q _ _ (same_new hl) (pl_list tr hl (r1.cut lo hi))⟩
  · cases hf
    obtain ⟨p, xs, rfl, e1, r1⟩ := rx.tuple_inv
    refine .inr (.inl ⟨p, xs, rfl, Rd.seqT e1, fun hw => ?_, fun _ l hl => q _ _ (same_new hl) (pl_tup tr hl (r1.cut lo hi))⟩)
    refine q H _ (Same.refl H) ?_
    have e : DL.cut ‹List D› lo hi = ‹List D› := by
      unfold DL.cut
      rw [r1.length, hw.1, hw.2]
      simp [← r1.length]
    cases rx with
    | of r => show Rp H O (.tuple (DL.cut _ lo hi)) _; rw [e]; exact r
    | rt r => cases r
  · split at hf
    · cases hf
      cases rx.str_inv
      rename_i hz
      refine .inr (.inr ⟨_, rfl, hz, ?_⟩)
      have := q H _ (Same.refl H) (.str _)
      unfold cutS
      unfold DL.cut at this
      simpa [Str.length] using this
    · cases hf
  · cases hf
/-- a slice of a list, owned -/
theorem s3_list : S3 .fr (rSlL X.K) (fun x lo hi => match x with | .list ds => some (.list (cut ds lo hi)) | _ => none) := by
  intro H O x dx d lo hi Q tr rx hf q
  simp only at hf
  split at hf
  · cases hf
    obtain ⟨p, xs, rfl, e1, r1⟩ := rx.list_inv
    exact ⟨p, xs, rfl, Rd.seqL e1, fun l hl => q _ _ (same_new hl) (fr_list tr hl (r1.cut lo hi))⟩
  · cases hf
theorem de_slG {r : V → Option Int → Option Int → Hp → VK → Prop} {f : D → Option Int → Option Int → Option D} {lo hi : Option Expr} {p2 : Pos} {ml mh : Env' → Res (Option Int)} (hr : SlR X r) (hS : S3 k r f) (ha : DE X G M ka a ma) (hl : DO X G M lo ml) (hh : DO X G M hi mh) :
    DE X G M k (.Subscript a (.Slice lo hi none p2) pos) (m3 f ma ml mh) := pe_imp (pe_slice hr ha.co hl hh) fun σ H Q ⟨g, O, env, sr, q⟩ => by
  refine ⟨g, O, env, sr, ?_⟩
  unfold m3 at q
  cases h1 : ma env with
  | err => rw [h1] at q; exact q
  | exc c d => rw [h1] at q; exact q
  | ok x =>
    rw [h1, Res.bind_ok] at q
    intro H1 v1 s1 r1
    refine ⟨g, O, env, sr.grow s1, ?_⟩
    cases h2 : ml env with
    | err => rw [h2] at q; exact q
    | exc c d => rw [h2] at q; exact XW.grow s1 q
    | ok l =>
      rw [h2, Res.bind_ok] at q
      intro H2 s2
      refine ⟨g, O, env, sr.grow (s1.trans s2), ?_⟩
      cases h3 : mh env with
      | err => rw [h3] at q; exact q
      | exc c d => rw [h3] at q; exact XW.grow (s1.trans s2) q
      | ok h =>
        rw [h3, Res.bind_ok] at q
        intro H3 s3
        have s := (s1.trans s2).trans s3
        cases hf : f x l h with
        | none => rw [hf] at q; exact q.elim
        | some d => rw [hf] at q; exact hS (Trk.grow sr.tr s) (Rc.same (s2.trans s3) r1) hf fun H' v s' r => q H' v (s.trans s') (RK.back s r)
theorem de_sl {lo hi : Option Expr} {p2 : Pos} {ml mh : Env' → Res (Option Int)} (ha : DE X G M ka a ma) (hl : DO X G M lo ml) (hh : DO X G M hi mh) : DE X G M .pl (.Subscript a (.Slice lo hi none p2) pos) (m3 slD ma ml mh) := de_slG sl_all s3_all ha hl hh

/-! ### tests -/
def tT (G : Gd) (M : List Md) (m : Env' → Res Bool) : TT := fun σ H Q => ∃ (g : Gr G.ex) (O : AS) (env : Env'), SR g.H0 g.O0 M O env σ H ∧ match m env with
  | .ok b => ∀ H', Same H H' → Q b H'
  | .exc c d => XW G O σ H c d
  | .err => False
def DT (X : Cx) (G : Gd) (M : List Md) (e : Expr) (m : Env' → Res Bool) : Prop := PT X e (tT G M m)
def DW (X : Cx) (G : Gd) (M : List Md) (e : Expr) (m : Env' → Res Bool) : Prop := PW X e (tT G M m)
theorem pt_imp {X : Cx} {e : Expr} {t t' : TT} (h : PT X e t) (i : ∀ σ H Q, t' σ H Q → t σ H Q) : PT X e t' := ⟨fun pins s σ H Q I q => h.run pins s σ H Q I (i σ H Q q)⟩
theorem pw_imp {X : Cx} {e : Expr} {t t' : TT} (h : PW X e t) (i : ∀ σ H Q, t' σ H Q → t σ H Q) : PW X e t' := ⟨fun wh pins s σ H Q I q => h.run wh pins s σ H Q I (i σ H Q q)⟩
def asB : D → Res Bool
  | .bool b => .ok b
  | _ => .err
def mB (m : Env' → Res D) : Env' → Res Bool := fun env => (m env).bind asB
theorem tB_ok (σ : L2.St) (H : Hp) (Q : Bool → Hp → Prop) (h : tT G M (mB ma) σ H Q) : tTest (tE G M .co ma) σ H Q := by
  obtain ⟨g, O, env, sr, q⟩ := h
  refine ⟨g, O, env, sr, ?_⟩
  unfold mB at q
  cases h : ma env with
  | err => rw [h] at q; exact q
  | exc c d => rw [h] at q; exact q
  | ok d =>
    rw [h, Res.bind_ok] at q
    intro H' v s r
    cases d <;> simp only [asB] at q
    case bool b => exact ⟨b, Rc.bl_inv r, q H' s⟩
theorem dt_val (ha : DE X G M ka e ma) (he : ∀ whole, isTrue e X.env whole = (do let v ← whole; standAt e.pos; holding [v] (truthy v)) := by intro _; rfl) : DT X G M e (mB ma) := pt_imp (pt_val ha.co he) tB_ok
/-- a comparison as a test -/
theorem dt_cmp {op : CmpOp} {r : R2} {f : D → D → Option D} (ho : OpR X (compareOp op) r) (hB : B2 .pl r f) (ha : DE X G M ka a ma) (hb : DE X G M kb b mb) (hm : behindInMarks op b = false) : DT X G M (.Compare a [op] [b] pos) (mB (m2 f ma mb)) :=
  pt_imp (pt_cmpR ho ha.co hb.co hm) fun σ H Q h => by
    obtain ⟨g, O, env, sr, q⟩ := h
    refine tOp_ok (G := G) (M := M) (k := .pl) hB σ H _ ⟨g, O, env, sr, ?_⟩
    unfold mB at q
    cases h : m2 f ma mb env with
    | err => rw [h] at q; exact q
    | exc c d => rw [h] at q; exact q
    | ok d =>
      rw [h, Res.bind_ok] at q
      intro H' v s r
      cases d <;> simp only [asB] at q
      case bool b => exact ⟨b, Rc.bl_inv (.of r), q H' s⟩
theorem dt_lt (ha : DE X G M ka a ma) (hb : DE X G M kb b mb) : DT X G M (.Compare a [.Lt] [b] pos) (mB (m2 ltI ma mb)) := dt_cmp op_lt b2_lt ha hb (nomark _)
theorem dt_le (ha : DE X G M ka a ma) (hb : DE X G M kb b mb) : DT X G M (.Compare a [.LtE] [b] pos) (mB (m2 leI ma mb)) := dt_cmp op_le b2_le ha hb (nomark _)
theorem dt_gt (ha : DE X G M ka a ma) (hb : DE X G M kb b mb) : DT X G M (.Compare a [.Gt] [b] pos) (mB (m2 gtI ma mb)) := dt_cmp op_gt b2_gt ha hb (nomark _)
theorem dt_ge (ha : DE X G M ka a ma) (hb : DE X G M kb b mb) : DT X G M (.Compare a [.GtE] [b] pos) (mB (m2 geI ma mb)) := dt_cmp op_ge b2_ge ha hb (nomark _)
theorem dt_eq (hu : X.A.units + 64 < cLine) (ha : DE X G M ka a ma) (hb : DE X G M kb b mb) : DT X G M (.Compare a [.Eq] [b] pos) (mB (m2 eqD ma mb)) := dt_cmp (op_eq.or (op_eqD hu)) b2_eq ha hb (nomark _)
theorem dt_ne (hu : X.A.units + 64 < cLine) (ha : DE X G M ka a ma) (hb : DE X G M kb b mb) : DT X G M (.Compare a [.NotEq] [b] pos) (mB (m2 neD ma mb)) := dt_cmp (op_ne.or (op_neD hu)) b2_ne ha hb (nomark _)
theorem dt_in (hu : X.A.units + 65 < cLine) (ha : DE X G M ka a ma) (hb : DE X G M kb b mb) (hm : behindInMarks .In b = false := by rfl) : DT X G M (.Compare a [.In] [b] pos) (mB (m2 inD ma mb)) := dt_cmp ((op_inD hu).or op_in_str) b2_in ha hb hm
theorem dt_notIn (hu : X.A.units + 65 < cLine) (ha : DE X G M ka a ma) (hb : DE X G M kb b mb) (hm : behindInMarks .NotIn b = false := by rfl) : DT X G M (.Compare a [.NotIn] [b] pos) (mB (m2 notInD ma mb)) := dt_cmp ((op_notInD hu).or op_notin_str) b2_notIn ha hb hm
def fIsN : D → D → Option D := fun x y => match y with | .none => some (.bool (isND x)) | _ => none
def fNotN : D → D → Option D := fun x y => match y with | .none => some (.bool (!isND x)) | _ => none
theorem dt_isN {j pos'} (ha : DE X G M ka a ma) : DT X G M (.Compare a [.Is] [.Constant .none j pos'] pos) (mB (mIsN ma)) := dt_cmp (f := fIsN) op_isN b2_isN ha de_non (nomark _)
theorem dt_notN {j pos'} (ha : DE X G M ka a ma) : DT X G M (.Compare a [.IsNot] [.Constant .none j pos'] pos) (mB (mNotN ma)) := dt_cmp (f := fNotN) op_notN b2_notN ha de_non (nomark _)
def bAnd (ma mb : Env' → Res Bool) : Env' → Res Bool := fun env => (ma env).bind fun b => if b = true then mb env else .ok false
def bOr (ma mb : Env' → Res Bool) : Env' → Res Bool := fun env => (ma env).bind fun b => if b = true then .ok true else mb env
def bNot (ma : Env' → Res Bool) : Env' → Res Bool := fun env => (ma env).bind fun b => .ok (!b)
variable {na nb nc : Env' → Res Bool} {rest : List Expr}
theorem tIte_ok {α : Type} {σ : L2.St} {H : Hp} {g : Gr G.ex} {O : AS} {env : Env'} {Q : Bool → Hp → Prop} (sr : SR g.H0 g.O0 M O env σ H) (f : Bool → Env' → Res Bool) (q : match ((na env).bind fun b => f b env) with
    | .ok b => ∀ H', Same H H' → Q b H' | .exc c d => XW G O σ H c d | .err => False) :
    tT G M na σ H fun b H1 => tT G M (f b) σ H1 fun b2 H2 => Q b2 H2 := by
  refine ⟨g, O, env, sr, ?_⟩
  cases h : na env with
  | err => rw [h] at q; exact q
  | exc c d => rw [h] at q; exact q
  | ok b =>
    rw [h, Res.bind_ok] at q
    intro H1 s1
    refine ⟨g, O, env, sr.grow s1, ?_⟩
    cases h2 : f b env with
    | err => rw [h2] at q; exact q
    | exc c d => rw [h2] at q; exact XW.grow s1 q
    | ok b2 => rw [h2] at q; exact fun H2 s2 => q H2 (s1.trans s2)
theorem tT_ok {b : Bool} {σ : L2.St} {H : Hp} {Q : Bool → Hp → Prop} (h : tT G M (fun _ => .ok b) σ H Q) : Q b H := by
  obtain ⟨g, O, env, sr, q⟩ := h
  exact q H (Same.refl H)
theorem dw_and1 (ha : DT X G M a na) : DW X G M (.BoolOp .And [a] pos) na := pw_and1 ha
theorem dw_or1 (ha : DT X G M a na) : DW X G M (.BoolOp .Or [a] pos) na := pw_or1 ha
theorem dw_and (ha : DT X G M a na) (hb : DW X G M (.BoolOp .And (b :: rest) pos) nb) : DW X G M (.BoolOp .And (a :: b :: rest) pos) (bAnd na nb) := pw_imp (pw_and ha hb) fun σ H Q ⟨g, O, env, sr, q⟩ => by
  have z := tIte_ok (α := Unit) sr (fun b env => if b = true then nb env else .ok false) q
  obtain ⟨g1, O1, env1, sr1, q1⟩ := z
  refine ⟨g1, O1, env1, sr1, ?_⟩
  cases h : na env1 with
  | err => rw [h] at q1; exact q1
  | exc c d => rw [h] at q1; exact q1
  | ok b =>
    rw [h] at q1
    intro H1 s1
    have q2 := q1 H1 s1
    cases b with
    | true => simpa using q2
    | false => simpa using tT_ok q2
theorem dw_or (ha : DT X G M a na) (hb : DW X G M (.BoolOp .Or (b :: rest) pos) nb) : DW X G M (.BoolOp .Or (a :: b :: rest) pos) (bOr na nb) := pw_imp (pw_or ha hb) fun σ H Q ⟨g, O, env, sr, q⟩ => by
  have z := tIte_ok (α := Unit) sr (fun b env => if b = true then .ok true else nb env) q
  obtain ⟨g1, O1, env1, sr1, q1⟩ := z
  refine ⟨g1, O1, env1, sr1, ?_⟩
  cases h : na env1 with
  | err => rw [h] at q1; exact q1
  | exc c d => rw [h] at q1; exact q1
  | ok b =>
    rw [h] at q1
    intro H1 s1
    have q2 := q1 H1 s1
    cases b with
    | true => simpa using tT_ok q2
    | false => simpa using q2
theorem dt_w (h : DW X G M e na) : DT X G M e na := PW.pt h
theorem dt_not (ha : DT X G M a na) : DT X G M (.UnaryOp .Not a pos) (bNot na) := pt_imp (pt_not ha) fun σ H Q ⟨g, O, env, sr, q⟩ => by
  refine ⟨g, O, env, sr, ?_⟩
  unfold bNot at q
  cases h : na env with
  | err => rw [h] at q; exact q
  | exc c d => rw [h] at q; exact q
  | ok b => rw [h, Res.bind_ok] at q; exact q
end
end DL

namespace DL
open PySem PySem.Spec L2

inductive RcA (H : Hp) (O : AS) : List D → List V → Prop
  | nil : RcA H O [] []
  | cons {d : D} {v : V} {ds : List D} {vs : List V} : Rc H O d v → RcA H O ds vs → RcA H O (d :: ds) (v :: vs)
theorem RcA.of {H : Hp} {O : AS} : ∀ {ds : List D} {vs : List V}, RpA H O ds vs → RcA H O ds vs
  | _, _, .nil => .nil
  | _, _, .cons a b => .cons (.of a) (RcA.of b)
section
variable {X : Cx} {G : Gd} {M : List Md} {k : Kd} {ka kb kc : Kd} {a b c e : Expr} {es : List Expr} {ma mb mc m : Env' → Res D} {pos : Pos}
variable {na nb nc : Env' → Res Bool} {rest : List Expr}

/-! ### a if t else b; and, or, not as values -/
def mIf (nc : Env' → Res Bool) (ma mb : Env' → Res D) : Env' → Res D := fun env => (nc env).bind fun b => if b = true then ma env else mb env
theorem de_if {c : Expr} (hc : DT X G M c nc) (ha : DE X G M .pl a ma) (hb : DE X G M .pl b mb) : DE X G M .pl (.IfExp c a b pos) (mIf nc ma mb) := pe_imp (pe_ifExp hc ha hb) fun σ H Q ⟨g, O, env, sr, q⟩ => by
  refine ⟨g, O, env, sr, ?_⟩
  unfold mIf at q
  cases h : nc env with
  | err => rw [h] at q; exact q
  | exc c d => rw [h] at q; exact q
  | ok b =>
    rw [h, Res.bind_ok] at q
    intro H1 s1
    cases b with
    | true =>
      rw [if_pos rfl] at q ⊢
      refine ⟨g, O, env, sr.grow s1, ?_⟩
      cases h2 : ma env with
      | err => rw [h2] at q; exact q
      | exc c d => rw [h2] at q; exact XW.grow s1 q
      | ok d => rw [h2] at q; exact fun H' v s r => q H' v (s1.trans s) r
    | false =>
      rw [if_neg Bool.false_ne_true] at q ⊢
      refine ⟨g, O, env, sr.grow s1, ?_⟩
      cases h2 : mb env with
      | err => rw [h2] at q; exact q
      | exc c d => rw [h2] at q; exact XW.grow s1 q
      | ok d => rw [h2] at q; exact fun H' v s r => q H' v (s1.trans s) r
def mAndV (ma mb : Env' → Res D) : Env' → Res D := fun env => (ma env).bind fun d => (asB d).bind fun b => if b = true then mb env else .ok (.bool false)
def mOrV (ma mb : Env' → Res D) : Env' → Res D := fun env => (ma env).bind fun d => (asB d).bind fun b => if b = true then .ok (.bool true) else mb env
def mNotV (ma : Env' → Res D) : Env' → Res D := fun env => (ma env).bind fun d => (asB d).bind fun b => .ok (.bool !b)
theorem de_one {op} (ha : DE X G M k a ma) : DE X G M k (.BoolOp op [a] pos) ma := pe_one ha
theorem de_and (ha : DE X G M .pl a ma) (hb : DE X G M .pl (.BoolOp .And (b :: rest) pos) mb) : DE X G M .pl (.BoolOp .And (a :: b :: rest) pos) (mAndV ma mb) := pe_imp (pe_and ha hb) fun σ H Q ⟨g, O, env, sr, q⟩ => by
  refine ⟨g, O, env, sr, ?_⟩
  unfold mAndV at q
  cases h : ma env with
  | err => rw [h] at q; exact q
  | exc c d => rw [h] at q; exact q
  | ok d =>
    rw [h, Res.bind_ok] at q
    intro H1 v1 s1 r1
    cases d <;> simp only [asB, Res.bind_err] at q
    case bool b =>
      rw [Res.bind_ok] at q
      refine ⟨b, Rc.bl_inv (.of r1), ?_⟩
      cases b with
      | false =>
        rw [if_neg Bool.false_ne_true] at q ⊢
        exact q H1 _ s1 (.bl _)
      | true =>
        rw [if_pos rfl] at q ⊢
        refine ⟨g, O, env, sr.grow s1, ?_⟩
        cases h2 : mb env with
        | err => rw [h2] at q; exact q
        | exc c d => rw [h2] at q; exact XW.grow s1 q
        | ok d => rw [h2] at q; exact fun H' v s r => q H' v (s1.trans s) r
theorem de_or (ha : DE X G M .pl a ma) (hb : DE X G M .pl (.BoolOp .Or (b :: rest) pos) mb) : DE X G M .pl (.BoolOp .Or (a :: b :: rest) pos) (mOrV ma mb) := pe_imp (pe_or ha hb) fun σ H Q ⟨g, O, env, sr, q⟩ => by
  refine ⟨g, O, env, sr, ?_⟩
  unfold mOrV at q
  cases h : ma env with
  | err => rw [h] at q; exact q
  | exc c d => rw [h] at q; exact q
  | ok d =>
    rw [h, Res.bind_ok] at q
    intro H1 v1 s1 r1
    cases d <;> simp only [asB, Res.bind_err] at q
    case bool b =>
      rw [Res.bind_ok] at q
      refine ⟨b, Rc.bl_inv (.of r1), ?_⟩
      cases b with
      | true =>
        rw [if_pos rfl] at q ⊢
        exact q H1 _ s1 (.bl _)
      | false =>
        rw [if_neg Bool.false_ne_true] at q ⊢
        refine ⟨g, O, env, sr.grow s1, ?_⟩
        cases h2 : mb env with
        | err => rw [h2] at q; exact q
        | exc c d => rw [h2] at q; exact XW.grow s1 q
        | ok d => rw [h2] at q; exact fun H' v s r => q H' v (s1.trans s) r
theorem de_not (ha : DE X G M k a ma) : DE X G M .pl (.UnaryOp .Not a pos) (mNotV ma) := pe_imp (pe_not ha.co) fun σ H Q ⟨g, O, env, sr, q⟩ => by
  refine ⟨g, O, env, sr, ?_⟩
  unfold mNotV at q
  cases h : ma env with
  | err => rw [h] at q; exact q
  | exc c d => rw [h] at q; exact q
  | ok d =>
    rw [h, Res.bind_ok] at q
    intro H1 v1 s1 r1
    cases d <;> simp only [asB, Res.bind_err] at q
    case bool b =>
      rw [Res.bind_ok] at q
      exact ⟨b, Rc.bl_inv r1, q H1 _ s1 (.bl _)⟩

/-! ### arguments -/
def RAk (k : Kd) (H : Hp) (O : AS) (ds : List D) (vs : List V) : Prop := match k with
  | .pl => RpA H O ds vs
  | _ => RcA H O ds vs
def RA1 (k : Kd) (H : Hp) (O : AS) (d : D) (v : V) : Prop := match k with
  | .pl => Rp H O d v
  | _ => Rc H O d v
theorem RcA.same {H H' : Hp} {O : AS} (s : Same H H') : ∀ {ds : List D} {vs : List V}, RcA H O ds vs → RcA H' O ds vs
  | _, _, .nil => .nil
  | _, _, .cons a b => .cons (a.same s) (RcA.same s b)
theorem RAk.cons {H H' : Hp} {O : AS} {d : D} {v : V} {ds : List D} {vs : List V} (s : Same H H') (r : RA1 k H O d v) (t : RAk k H' O ds vs) : RAk k H' O (d :: ds) (v :: vs) := by
  cases k with
  | pl => exact .cons (Rp.mono (Sub.same s O) r) t
  | co => exact .cons (Rc.same s r) t
  | fr => exact .cons (Rc.same s r) t
theorem RcA.appendOf {H : Hp} {O : AS} : ∀ {es ds : List D} {ws vs : List V}, RpA H O es ws → RcA H O ds vs → RcA H O (es ++ ds) (ws ++ vs)
  | _, _, _, _, .nil, t => t
  | _, _, _, _, .cons a b, t => .cons (.of a) (RcA.appendOf b t)
theorem RAk.append {H H' : Hp} {O : AS} {es ds : List D} {ws vs : List V} (s : Same H H') (r : RpA H O es ws) (t : RAk k H' O ds vs) : RAk k H' O (es ++ ds) (ws ++ vs) := by
  cases k with
  | pl => exact (r.mono (Sub.same s O)).append t
  | co => exact RcA.appendOf (r.mono (Sub.same s O)) t
  | fr => exact RcA.appendOf (r.mono (Sub.same s O)) t
def tAs (G : Gd) (M : List Md) (k : Kd) (m : Env' → Res (List D)) : TA := fun σ H Q => ∃ (g : Gr G.ex) (O : AS) (env : Env'), SR g.H0 g.O0 M O env σ H ∧ match m env with
  | .ok ds => ∀ H' vs, Same H H' → RAk k H' O ds vs → Q vs H'
  | .exc c d => XW G O σ H c d
  | .err => False
def DA (X : Cx) (G : Gd) (M : List Md) (k : Kd) (es : List Expr) (m : Env' → Res (List D)) : Prop := PA X es (tAs G M k m)
theorem pa_imp {X : Cx} {e : List Expr} {t t' : TA} (h : PA X e t) (i : ∀ σ H Q, t' σ H Q → t σ H Q) : PA X e t' := ⟨fun pos pins s σ H Q I q => h.run pos pins s σ H Q I (i σ H Q q)⟩
def aNil : Env' → Res (List D) := fun _ => .ok []
def aCons (m : Env' → Res D) (ms : Env' → Res (List D)) : Env' → Res (List D) := fun env => (m env).bind fun d => (ms env).bind fun ds => .ok (d :: ds)
variable {ms : Env' → Res (List D)}
theorem da_nil : DA X G M k [] aNil := pa_imp pa_nil fun σ H Q ⟨g, O, env, sr, q⟩ => q H [] (Same.refl H) (by cases k <;> constructor)
theorem da_consG (ha : DE X G M k e m) (hk : ∀ H O H' d v, Trk H O → RK k H O H' d v → RA1 kb H' O d v) (hr : DA X G M kb es ms) (hs : starEach (e :: es) X.env = (false, eval e X.env) :: starEach es X.env) : DA X G M kb (e :: es) (aCons m ms) :=
  pa_imp (pa_cons ha hr hs) fun σ H Q ⟨g, O, env, sr, q⟩ => by
    refine ⟨g, O, env, sr, ?_⟩
    unfold aCons at q
    cases h : m env with
    | err => rw [h] at q; exact q
    | exc c d => rw [h] at q; exact q
    | ok d =>
      rw [h, Res.bind_ok] at q
      intro H1 v1 s1 r1
      refine ⟨g, O, env, sr.grow s1, ?_⟩
      cases h2 : ms env with
      | err => rw [h2] at q; exact q
      | exc c d => rw [h2] at q; exact XW.grow s1 q
      | ok ds =>
        rw [h2, Res.bind_ok] at q
        exact fun H2 vs s2 r2 => q H2 _ (s1.trans s2) (RAk.cons s2 (hk _ _ _ _ _ sr.tr r1) r2)
theorem da_cons (ha : DE X G M .pl e m) (hr : DA X G M .pl es ms) (hs : starEach (e :: es) X.env = (false, eval e X.env) :: starEach es X.env := by rfl) : DA X G M .pl (e :: es) (aCons m ms) := da_consG ha (fun _ _ _ _ _ _ r => r) hr hs
theorem da_consC (ha : DE X G M k e m) (hr : DA X G M .co es ms) (hs : starEach (e :: es) X.env = (false, eval e X.env) :: starEach es X.env := by rfl) : DA X G M .co (e :: es) (aCons m ms) := da_consG ha.co (fun _ _ _ _ _ _ r => r) hr hs
/-- *e -/
def itemsD : D → Res (List D)
  | .list ds => .ok ds
  | .tuple ds => .ok ds
  | _ => .err
def aStar (m : Env' → Res D) (ms : Env' → Res (List D)) : Env' → Res (List D) := fun env => (m env).bind fun d => (itemsD d).bind fun xs => (ms env).bind fun ds => .ok (xs ++ ds)

theorem da_star {p : Pos} (ha : DE X G M ka e m) (hr : DA X G M kb es ms) (hs : starEach (.Starred e p :: es) X.env = (true, eval e X.env) :: starEach es X.env := by rfl) : DA X G M kb (.Starred e p :: es) (aStar m ms) :=
  pa_imp (StX.pa_star ha.co hr hs) fun σ H Q ⟨g, O, env, sr, q⟩ => by
    refine ⟨g, O, env, sr, ?_⟩
    unfold aStar at q
    cases h : m env with
    | err => rw [h] at q; exact q
    | exc c d => rw [h] at q; exact q
    | ok d =>
      rw [h, Res.bind_ok] at q
      intro H1 v1 s1 r1
      have fin : ∀ (xs : List D) (vs : List V), RpA H1 O xs vs → (match ((ms env).bind fun ds => Res.ok (xs ++ ds)) with
          | .ok ds => ∀ H' vs, Same H H' → RAk kb H' O ds vs → Q vs H' | .exc c d => XW G O σ H c d | .err => False) → tAs G M kb ms σ H1 fun ys H2 => Q (vs ++ ys) H2 := by
        intro xs vs r q
        refine ⟨g, O, env, sr.grow s1, ?_⟩
        cases h2 : ms env with
        | err => rw [h2] at q; exact q
        | exc c d => rw [h2] at q; exact XW.grow s1 q
        | ok ds =>
          rw [h2, Res.bind_ok] at q
          exact fun H2 vs' s2 r2 => q H2 _ (s1.trans s2) (RAk.append s2 r r2)
      cases d <;> simp only [itemsD, Res.bind_err] at q
      case list xs =>
        obtain ⟨a, vs, rfl, e1, r2⟩ := Rc.list_inv r1
        exact ⟨a, vs, rfl, .inr (Rd.seqL e1), fin xs vs r2 q⟩
      case tuple xs =>
        obtain ⟨a, vs, rfl, e1, r2⟩ := Rc.tuple_inv r1
        exact ⟨a, vs, rfl, .inl (Rd.seqT e1), fin xs vs r2 q⟩

/-! ### displays -/
def mList (ms : Env' → Res (List D)) : Env' → Res D := fun env => (ms env).bind fun ds => if ds.length ≤ sizeLine then .ok (.list ds) else .err
def mTup (ms : Env' → Res (List D)) : Env' → Res D := fun env => (ms env).bind fun ds => if ds.length ≤ sizeLine then .ok (.tuple ds) else .err
theorem de_list (h : DA X G M .pl es ms) : DE X G M .fr (.List es pos) (mList ms) := pe_imp (pe_lst h) fun σ H Q ⟨g, O, env, sr, q⟩ => by
  refine ⟨g, O, env, sr, ?_⟩
  unfold mList at q
  cases h : ms env with
  | err => rw [h] at q; exact q
  | exc c d => rw [h] at q; exact q
  | ok ds =>
    rw [h, Res.bind_ok] at q
    intro H1 vs s1 r1
    by_cases hz : ds.length ≤ sizeLine
    · rw [if_pos hz] at q
      have r2 : RpA H1 O ds vs := r1
      refine ⟨by rw [← r2.length]; exact hz, fun p hp => q _ _ (s1.trans (same_new hp)) ?_⟩
      exact RK.back s1 (fr_list (Trk.grow sr.tr s1) hp r2)
    · rw [if_neg hz] at q
      exact q.elim
theorem de_tup {x1} (h : DA X G M .pl es ms) : DE X G M .pl (.Tuple es x1 pos) (mTup ms) := pe_imp (pe_tup h) fun σ H Q ⟨g, O, env, sr, q⟩ => by
  refine ⟨g, O, env, sr, ?_⟩
  unfold mTup at q
  cases h : ms env with
  | err => rw [h] at q; exact q
  | exc c d => rw [h] at q; exact q
  | ok ds =>
    rw [h, Res.bind_ok] at q
    intro H1 vs s1 r1
    by_cases hz : ds.length ≤ sizeLine
    · rw [if_pos hz] at q
      have r2 : RpA H1 O ds vs := r1
      exact ⟨by rw [← r2.length]; exact hz, fun p hp => q _ _ (s1.trans (same_new hp)) (pl_tup (Trk.grow sr.tr s1) hp r2)⟩
    · rw [if_neg hz] at q
      exact q.elim

/-! ### calls of built-ins by values -/
def CB (k : Kd) (ka : Kd) (r : List V → Hp → VK → Prop) (f : List D → Option D) : Prop := ∀ {H : Hp} {O : AS} {vs : List V} {ds : List D} {d : D} {Q : VK}, Trk H O → RAk ka H O ds vs → f ds = some d →
  (∀ H' v, Same H H' → RK k H O H' d v → Q v H') → r vs H Q
def mCB (f : List D → Option D) (ms : Env' → Res (List D)) : Env' → Res D := fun env => (ms env).bind fun ds => Res.of (f ds)
theorem tCB_ok {r : List V → Hp → VK → Prop} {f : List D → Option D} (hC : CB k ka r f) (σ : L2.St) (H : Hp) (Q : VK) (h : tE G M k (mCB f ms) σ H Q) : tCB r (tAs G M ka ms) σ H Q := by
  obtain ⟨g, O, env, sr, q⟩ := h
  refine ⟨g, O, env, sr, ?_⟩
  unfold mCB at q
  cases h : ms env with
  | err => rw [h] at q; exact q
  | exc c d => rw [h] at q; exact q
  | ok ds =>
    rw [h, Res.bind_ok] at q
    intro H1 vs s1 r1
    cases hf : f ds with
    | none => rw [hf] at q; exact q.elim
    | some d => rw [hf] at q; exact hC (Trk.grow sr.tr s1) r1 hf fun H' v s r => q H' v (s1.trans s) (RK.back s1 r)
theorem de_callB {r : List V → Hp → VK → Prop} {f : List D → Option D} {x : Str} {id : String} {p : Pos} (hc : CallR X (.builtin id) r) (hC : CB k ka r f) (hg : Gl X x) (hm : X.mg x = none) (hv : bootBuiltins x = some (.builtin id)) (ha : DA X G M ka (e :: es) ms) (hn : x ≠ "__name__" := by decide) (hdb : (x == ("__debug__" : Str)) = false := by decide)
    (he : starEach (e :: es) X.env = (false, eval e X.env) :: starEach es X.env := by rfl) (hpl : (backTo pos (starEach es X.env)).any (·.1) = false := by rfl) : DE X G M k (.Call (.Name x p) (e :: es) [] pos) (mCB f ms) := pe_imp (pe_callB hc hg hm hv ha hn hdb he hpl) (tCB_ok hC)
theorem de_callTy {r : List V → Hp → VK → Prop} {f : List D → Option D} {x : Str} {T : String} {p : Pos} (hc : CallR X (.type T) r) (hC : CB k ka r f) (hg : Gl X x) (hm : X.mg x = none) (hv : bootBuiltins x = some (.type T)) (ha : DA X G M ka (e :: es) ms) (hn : x ≠ "__name__" := by decide) (hdb : (x == ("__debug__" : Str)) = false := by decide)
    (he : starEach (e :: es) X.env = (false, eval e X.env) :: starEach es X.env := by rfl) (hpl : (backTo pos (starEach es X.env)).any (·.1) = false := by rfl) : DE X G M k (.Call (.Name x p) (e :: es) [] pos) (mCB f ms) := pe_imp (pe_callTy hc hg hm hv ha hn hdb he hpl) (tCB_ok hC)
theorem RcA.one {H : Hp} {O : AS} {d : D} {vs : List V} (r : RcA H O [d] vs) : ∃ v, vs = [v] ∧ Rc H O d v := by
  cases r with | cons a b => cases b; exact ⟨_, rfl, a⟩
theorem RcA.two {H : Hp} {O : AS} {d e : D} {vs : List V} (r : RcA H O [d, e] vs) : ∃ v w, vs = [v, w] ∧ Rc H O d v ∧ Rc H O e w := by
  cases r with | cons a b => cases b with | cons b c => cases c; exact ⟨_, _, rfl, a, b⟩
def lenD : List D → Option D
  | [.list ds] => some (.int ds.length)
  | [.tuple ds] => some (.int ds.length)
  | [.str x] => if x.length ≤ sizeLine then some (.int x.length) else none
  | _ => none
theorem cb_len {K : PySem.W.Frag} : CB .pl .co (fun xs H Q => ∃ x n, xs = [x] ∧ LenV K x H n ∧ Q (.int n) H) lenD := by
  intro H O vs ds d Q tr r hf q
  unfold lenD at hf
  split at hf
  · cases hf
    obtain ⟨v, rfl, r1⟩ := RcA.one r
    obtain ⟨p, xs, rfl, e1, r2⟩ := r1.list_inv
    exact ⟨_, _, rfl, .inl ⟨xs, Rd.seqL e1, r2.length⟩, q H _ (Same.refl H) (.int _)⟩
  · cases hf
    obtain ⟨v, rfl, r1⟩ := RcA.one r
    obtain ⟨p, xs, rfl, e1, r2⟩ := r1.tuple_inv
    exact ⟨_, _, rfl, .inr ⟨xs, Rd.seqT e1, r2.length⟩, q H _ (Same.refl H) (.int _)⟩
  · split at hf
    · rename_i hz
      cases hf
      obtain ⟨v, rfl, r1⟩ := RcA.one r
      cases r1.str_inv
      exact ⟨_, _, rfl, ⟨hz, rfl⟩, q H _ (Same.refl H) (.int _)⟩
    · cases hf
  · cases hf
def intD : List D → Option D
  | [.int i] => some (.int i)
  | [.bool b] => some (.int (if b then 1 else 0))
  | _ => none
theorem cb_int : CB .pl .co (fun xs H Q => (∃ i, xs = [.int i] ∧ Q (.int i) H) ∨ ∃ k, xs = [.bl k] ∧ Q (.int (if k then 1 else 0)) H) intD := by
  intro H O vs ds d Q tr r hf q
  unfold intD at hf
  split at hf
  · cases hf
    obtain ⟨v, rfl, r1⟩ := RcA.one r
    cases r1.int_inv
    exact .inl ⟨_, rfl, q H _ (Same.refl H) (.int _)⟩
  · cases hf
    obtain ⟨v, rfl, r1⟩ := RcA.one r
    cases r1.bl_inv
    exact .inr ⟨_, rfl, q H _ (Same.refl H) (.int _)⟩
  · cases hf
def int1 (g : Int → Int) : List D → Option D
  | [.int i] => some (.int (g i))
  | _ => none
def int2 (g : Int → Int → Int) : List D → Option D
  | [.int i, .int j] => some (.int (g i j))
  | _ => none
abbrev absD := int1 fun i => if i < 0 then -i else i
abbrev maxD := int2 fun i j => if j > i then j else i
abbrev minD := int2 fun i j => if j < i then j else i
theorem cb_abs : CB .pl .co (fun xs H Q => ∃ i, xs = [.int i] ∧ Q (.int (if i < 0 then -i else i)) H) absD := by
  intro H O vs ds d Q tr r hf q
  unfold absD int1 at hf
  split at hf
  · cases hf
    obtain ⟨v, rfl, r1⟩ := RcA.one r
    cases r1.int_inv
    exact ⟨_, rfl, q H _ (Same.refl H) (.int _)⟩
  · cases hf
theorem cb_int2 {g : Int → Int → Int} : CB .pl .co (fun xs H Q => ∃ i j, xs = [.int i, .int j] ∧ Q (.int (g i j)) H) (int2 g) := by
  intro H O vs ds d Q tr r hf q
  unfold int2 at hf
  split at hf
  · cases hf
    obtain ⟨v, w, rfl, r1, r2⟩ := RcA.two r
    cases r1.int_inv; cases r2.int_inv
    exact ⟨_, _, rfl, q H _ (Same.refl H) (.int _)⟩
  · cases hf
theorem cb_max : CB .pl .co (fun xs H Q => ∃ i j, xs = [.int i, .int j] ∧ Q (.int (if j > i then j else i)) H) maxD := cb_int2
theorem cb_min : CB .pl .co (fun xs H Q => ∃ i j, xs = [.int i, .int j] ∧ Q (.int (if j < i then j else i)) H) minD := cb_int2
def listD : List D → Option D
  | [.list ds] => some (.list ds)
  | [.tuple ds] => some (.list ds)
  | _ => none
theorem cb_list {K : PySem.W.Frag} : CB .fr .co (fun xs H Q => ∃ p ys, xs = [.ref p] ∧ (SqL K H p ys ∨ SqT K H p ys) ∧ ∀ l, H l = none → Q (.ref l) (upd H l (.lst ys))) listD := by
  intro H O vs ds d Q tr r hf q
  unfold listD at hf
  split at hf
  · cases hf
    obtain ⟨v, rfl, r1⟩ := RcA.one r
    obtain ⟨p, xs, rfl, e1, r2⟩ := r1.list_inv
    exact ⟨_, _, rfl, .inl (Rd.seqL e1), fun l hl => q _ _ (same_new hl) (fr_list tr hl r2)⟩
  · cases hf
    obtain ⟨v, rfl, r1⟩ := RcA.one r
    obtain ⟨p, xs, rfl, e1, r2⟩ := r1.tuple_inv
    exact ⟨_, _, rfl, .inr (Rd.seqT e1), fun l hl => q _ _ (same_new hl) (fr_list tr hl r2)⟩
  · cases hf
def tupleD : List D → Option D
  | [.list ds] => some (.tuple ds)
  | [.tuple ds] => some (.tuple ds)
  | _ => none
theorem cb_tuple {K : PySem.W.Frag} : CB .pl .co (fun xs H Q => ∃ p ys, xs = [.ref p] ∧ ((SqL K H p ys ∧ ∀ l, H l = none → Q (.ref l) (upd H l (.tup ys))) ∨ (SqT K H p ys ∧ Q (.ref p) H))) tupleD := by
  intro H O vs ds d Q tr r hf q
  unfold tupleD at hf
  split at hf
  · cases hf
    obtain ⟨v, rfl, r1⟩ := RcA.one r
    obtain ⟨p, xs, rfl, e1, r2⟩ := r1.list_inv
    exact ⟨_, _, rfl, .inl ⟨Rd.seqL e1, fun l hl => q _ _ (same_new hl) (pl_tup tr hl r2)⟩⟩
  · cases hf
    obtain ⟨v, rfl, r1⟩ := RcA.one r
    obtain ⟨p, xs, rfl, e1, r2⟩ := r1.tuple_inv
    refine ⟨_, _, rfl, .inr ⟨Rd.seqT e1, q _ _ (Same.refl H) ?_⟩⟩
    cases r1 with
    | of r => exact r
    | rt r => cases r
  · cases hf
variable {p : Pos}
theorem de_len (hg : Gl X "len") (hm : X.mg "len" = none) (ha : DA X G M .co [e] ms) (he : starEach [e] X.env = [(false, eval e X.env)] := by rfl) : DE X G M .pl (.Call (.Name "len" p) [e] [] pos) (mCB lenD ms) := de_callB call_len cb_len hg hm boot_len ha (he := he)
end
end DL

namespace DL
open PySem PySem.Spec L2

inductive Out where
  | nx (e : Env') | rt (d : D) | bk (e : Env') | ct (e : Env') | exc (c : Str) (d : D) (e : Env') | err
/-- the modes at break and continue, at an exception; how a result is owned -/
structure Lp where
  Mb : List Md
  Mx : List Md
  kr : Kd
def tS (G : Gd) (L : Lp) (M M' : List Md) (m : Env' → Out) : TS := fun E σ H => ∃ (g : Gr G.ex) (O : AS) (env : Env'), SR g.H0 g.O0 M O env σ H ∧ match m env with
  | .nx e => ∀ σ' H' O', Sub H O H' O' → SR g.H0 g.O0 M' O' e σ' H' → E.nx σ' H'
  | .rt d => ∀ H' v, Same g.H0 H' → RK L.kr g.H0 g.O0 H' d v → E.rt v H'
  | .bk e => ∀ σ' H' O', Sub H O H' O' → SR g.H0 g.O0 L.Mb O' e σ' H' → E.bk σ' H'
  | .ct e => ∀ σ' H' O', Sub H O H' O' → SR g.H0 g.O0 L.Mb O' e σ' H' → E.ct σ' H'
  | .exc c d e => ∀ σ' H' O' dd cls va, Sub H O H' O' → SR g.H0 g.O0 L.Mx O' e σ' H' → G.mg c = some cls → H' dd = some (.xd [(("at" : Str), va)]) → Rp H' O' d va → G.W cls (some dd) σ' H'
  | .err => False
def DS (X : Cx) (G : Gd) (L : Lp) (M M' : List Md) (st : Stmt) (m : Env' → Out) : Prop := PS X st (tS G L M M' m)
def DSs (X : Cx) (G : Gd) (L : Lp) (M M' : List Md) (sts : List Stmt) (m : Env' → Out) : Prop := PSs X sts (tS G L M M' m)
theorem ps_imp {X : Cx} {e : Stmt} {t t' : TS} (h : PS X e t) (i : ∀ E σ H, t' E σ H → t E σ H) : PS X e t' := ⟨fun pins s σ H D I q => h.run pins s σ H D I (i D σ H q)⟩
theorem pss_imp {X : Cx} {e : List Stmt} {t t' : TS} (h : PSs X e t) (i : ∀ E σ H, t' E σ H → t E σ H) : PSs X e t' := ⟨fun pins s σ H D I q => h.run pins s σ H D I (i D σ H q)⟩

/-! ### modes forgotten -/
/-- each known mode of the second list is the first one's -/
def mle : List Md → List Md → Bool
  | _, [] => true
  | m :: ms, n :: ns => (decide (n = .un) || decide (m = n)) && mle ms ns
  | [], n :: ns => decide (n = .un) && mle [] ns
theorem mle_get : ∀ {M N : List Md} {i : Nat} {md : Md}, mle M N = true → N[i]? = some md → md ≠ .un → M[i]? = some md
  | _, [], i, md, _, h, _ => by simp at h
  | m :: ms, n :: ns, 0, md, h, e, u => by
    simp only [mle, Bool.and_eq_true, Bool.or_eq_true, decide_eq_true_eq] at h
    simp at e
    subst e
    rcases h.1 with z | z
    · exact absurd z u
    · simp [z]
  | m :: ms, n :: ns, i + 1, md, h, e, u => by
    simp only [mle, Bool.and_eq_true] at h
    simp only [List.getElem?_cons_succ] at e ⊢
    exact mle_get h.2 e u
  | [], n :: ns, 0, md, h, e, u => by
    simp only [mle, Bool.and_eq_true, decide_eq_true_eq] at h
    simp at e
    subst e
    exact absurd h.1 u
  | [], n :: ns, i + 1, md, h, e, u => by
    simp only [mle, Bool.and_eq_true] at h
    simp only [List.getElem?_cons_succ] at e
    have := mle_get (M := []) h.2 e u
    simp at this
theorem SR.weak {H0 H : Hp} {O0 O : AS} {M N : List Md} {env : Env'} {σ : L2.St} (h : mle M N = true) (r : SR H0 O0 M O env σ H) : SR H0 O0 N O env σ H where
  same := r.same
  sub0 := r.sub0
  tr := r.tr
  new := r.new
  len := r.len
  fz := fun i d hm he => r.fz i d (mle_get h hm (by simp)) he
  ow := fun i d hm he => r.ow i d (mle_get h hm (by simp)) he
  dist := fun i j d e a h1 h2 => r.dist i j d e a (mle_get h h1 (by simp)) (mle_get h h2 (by simp))
  exs := fun i a hm => r.exs i a (mle_get h hm (by simp))
/-- a slot is frozen -/
theorem SR.freeze {H0 H : Hp} {O0 O : AS} {M : List Md} {env : Env'} {σ : L2.St} (i : Nat) (r : SR H0 O0 M O env σ H) (ho : M[i]? = some .ow) : ∃ O', Sub H O H O' ∧ SR H0 O0 (M.set i .fz) O' env σ H := by
  cases he : env[i]? with
  | none =>
    refine ⟨O, Sub.refl _ _, ⟨r.same, r.sub0, r.tr, r.new, r.len, fun j d hm e => ?_, fun j d hm e => ?_, fun j l d e a h1 h2 h3 h4 => ?_, fun j a hm => ?_⟩⟩
    · have ne : j ≠ i := fun z => by subst z; rw [he] at e; cases e
      rw [List.getElem?_set_ne (Ne.symm ne)] at hm
      exact r.fz j d hm e
    · have ne : j ≠ i := fun z => by subst z; rw [he] at e; cases e
      rw [List.getElem?_set_ne (Ne.symm ne)] at hm
      exact r.ow j d hm e
    · have ne : j ≠ i := fun z => by subst z; rw [he] at h3; cases h3
      have ne2 : l ≠ i := fun z => by subst z; rw [he] at h4; cases h4
      rw [List.getElem?_set_ne (Ne.symm ne)] at h1
      rw [List.getElem?_set_ne (Ne.symm ne2)] at h2
      exact r.dist j l d e a h1 h2 h3 h4
    · have ne : j ≠ i := fun z => by
        subst z
        obtain ⟨hlt, _⟩ := List.getElem?_eq_some_iff.mp ho
        rw [List.getElem?_set_self hlt] at hm; cases hm
      rw [List.getElem?_set_ne (Ne.symm ne)] at hm
      exact r.exs _ _ hm
  | some o =>
    cases o with
    | none =>
      refine ⟨O, Sub.refl _ _, ⟨r.same, r.sub0, r.tr, r.new, r.len, fun j d hm e => ?_, fun j d hm e => ?_, fun j l d e a h1 h2 h3 h4 => ?_, fun j a hm => ?_⟩⟩
      · have ne : j ≠ i := fun z => by subst z; rw [he] at e; cases e
        rw [List.getElem?_set_ne (Ne.symm ne)] at hm
        exact r.fz j d hm e
      · have ne : j ≠ i := fun z => by subst z; rw [he] at e; cases e
        rw [List.getElem?_set_ne (Ne.symm ne)] at hm
        exact r.ow j d hm e
      · have ne : j ≠ i := fun z => by subst z; rw [he] at h3; cases h3
        have ne2 : l ≠ i := fun z => by subst z; rw [he] at h4; cases h4
        rw [List.getElem?_set_ne (Ne.symm ne)] at h1
        rw [List.getElem?_set_ne (Ne.symm ne2)] at h2
        exact r.dist j l d e a h1 h2 h3 h4
      · have ne : j ≠ i := fun z => by
          subst z
          obtain ⟨hlt, _⟩ := List.getElem?_eq_some_iff.mp ho
          rw [List.getElem?_set_self hlt] at hm; cases hm
        rw [List.getElem?_set_ne (Ne.symm ne)] at hm
        exact r.exs _ _ hm
    | some di =>
      obtain ⟨a, ea, oa, na, ra⟩ := r.ow i di ho he
      have less : ∀ b, (O b ∧ b ≠ a) → O b := fun b z => z.1
      have sub : Sub H O H (fun b => O b ∧ b ≠ a) := Sub.less less
      refine ⟨fun b => O b ∧ b ≠ a, sub, ⟨r.same, fun b hb => ⟨r.sub0 b hb, fun z => by subst z; exact na hb⟩, fun b hb => r.tr b hb.1, fun b hb => r.new b hb.1, r.len, fun j d hm e => ?_, fun j d hm e => ?_, fun j l d e a' h1 h2 h3 h4 => ?_, fun j a' hm => ?_⟩⟩
      · by_cases ne : j = i
        · subst ne
          rw [he] at e; cases e
          exact ⟨_, ea, ra.rp sub fun z => z.2 rfl⟩
        · rw [List.getElem?_set_ne (Ne.symm ne)] at hm
          obtain ⟨v, ev, q⟩ := r.fz j d hm e
          exact ⟨v, ev, q.mono sub⟩
      · have ne : j ≠ i := fun z => by
          subst z
          obtain ⟨hlt, _⟩ := List.getElem?_eq_some_iff.mp ho
          rw [List.getElem?_set_self hlt] at hm; cases hm
        rw [List.getElem?_set_ne (Ne.symm ne)] at hm
        obtain ⟨b, eb, ob, nb, rb⟩ := r.ow j d hm e
        refine ⟨b, eb, ⟨ob, fun z => ?_⟩, nb, rb.mono sub rfl⟩
        subst z
        exact ne (r.dist j i d di b hm ho e he eb ea)
      · have hne : ∀ {x : Nat}, (M.set i .fz)[x]? = some Md.ow → x ≠ i := fun {x} hm z => by
          subst z
          obtain ⟨hlt, _⟩ := List.getElem?_eq_some_iff.mp ho
          rw [List.getElem?_set_self hlt] at hm; cases hm
        rw [List.getElem?_set_ne (Ne.symm (hne h1))] at h1
        rw [List.getElem?_set_ne (Ne.symm (hne h2))] at h2
        exact r.dist j l d e a' h1 h2 h3 h4
      · have ne : j ≠ i := fun z => by
          subst z
          obtain ⟨hlt, _⟩ := List.getElem?_eq_some_iff.mp ho
          rw [List.getElem?_set_self hlt] at hm; cases hm
        rw [List.getElem?_set_ne (Ne.symm ne)] at hm
        exact r.exs _ _ hm
/-- a slot is set, to frozen data -/
theorem SR.setF {H0 H : Hp} {O0 O : AS} {M : List Md} {env : Env'} {σ : L2.St} {d : D} {v : V} (i : Nat) (r : SR H0 O0 M O env σ H) (q : Rp H O d v) : SR H0 O0 (M.set i .fz) O (env.set i (some d)) (σ.set i (some v)) H where
  same := r.same
  sub0 := r.sub0
  tr := r.tr
  new := r.new
  len := by simpa using r.len
  fz := fun j e hm he => by
    by_cases ne : j = i
    · subst ne
      obtain ⟨hlt, _⟩ := List.getElem?_eq_some_iff.mp he
      have hlt' : j < env.length := by simpa using hlt
      rw [List.getElem?_set_self hlt'] at he
      cases he
      exact ⟨v, List.getElem?_set_self (by rw [← r.len]; exact hlt'), q⟩
    · rw [List.getElem?_set_ne (Ne.symm ne)] at hm he ⊢
      exact r.fz j e hm he
  ow := fun j e hm he => by
    by_cases ne : j = i
    · subst ne
      obtain ⟨hlt, _⟩ := List.getElem?_eq_some_iff.mp hm
      rw [List.getElem?_set_self (by simpa using hlt)] at hm
      cases hm
    · rw [List.getElem?_set_ne (Ne.symm ne)] at hm he ⊢
      exact r.ow j e hm he
  dist := fun j l e f a h1 h2 h3 h4 h5 h6 => by
    have hne : ∀ {x : Nat}, (M.set i .fz)[x]? = some Md.ow → x ≠ i := fun {x} hm z => by
      subst z
      obtain ⟨hlt, _⟩ := List.getElem?_eq_some_iff.mp hm
      rw [List.getElem?_set_self (by simpa using hlt)] at hm; cases hm
    have n1 := hne h1
    have n2 := hne h2
    rw [List.getElem?_set_ne (Ne.symm n1)] at h1 h3 h5
    rw [List.getElem?_set_ne (Ne.symm n2)] at h2 h4 h6
    exact r.dist j l e f a h1 h2 h3 h4 h5 h6
  exs := fun j a hm => by
    have ne : j ≠ i := fun z => by
      subst z
      obtain ⟨hlt, _⟩ := List.getElem?_eq_some_iff.mp hm
      rw [List.getElem?_set_self (by simpa using hlt)] at hm; cases hm
    rw [List.getElem?_set_ne (Ne.symm ne)] at hm ⊢
    exact r.exs j a hm
/-- .. to an object of its own at a new address -/
theorem SR.setO {H0 H H' : Hp} {O0 O : AS} {M : List Md} {env : Env'} {σ : L2.St} {d : D} {p : Addr} (i : Nat) (r : SR H0 O0 M O env σ H) (s : Same H H') (hp : H p = none) (q : Rt H' (fun b => O b ∨ b = p) d p) :
    Sub H O H' (fun b => O b ∨ b = p) ∧ SR H0 O0 (M.set i .ow) (fun b => O b ∨ b = p) (env.set i (some d)) (σ.set i (some (.ref p))) H' := by
  have sub : Sub H O H' (fun b => O b ∨ b = p) := (Sub.more hp).trans (Sub.same s _)
  refine ⟨sub, ⟨r.same.trans s, fun a h => .inl (r.sub0 a h), fun a h => ?_, fun a h => ?_, by simpa using r.len, fun j e hm he => ?_, fun j e hm he => ?_, fun j l e f a h1 h2 h3 h4 h5 h6 => ?_, fun j a hm => ?_⟩⟩
  · rcases h with h | rfl
    · exact Trk.grow r.tr s a h
    · cases q with
      | lst e _ => exact ⟨_, e, trivial⟩
      | dK e _ => exact ⟨_, e, trivial⟩
      | dT e _ => exact ⟨_, e, trivial⟩
  · rcases h with h | rfl
    · exact r.new a h
    · exact .inr (r.same.free hp)
  · have ne : j ≠ i := fun z => by
      subst z
      obtain ⟨hlt, _⟩ := List.getElem?_eq_some_iff.mp hm
      rw [List.getElem?_set_self (by simpa using hlt)] at hm
      cases hm
    rw [List.getElem?_set_ne (Ne.symm ne)] at hm he ⊢
    obtain ⟨v, ev, qv⟩ := r.fz j e hm he
    exact ⟨v, ev, qv.mono sub⟩
  · by_cases ne : j = i
    · subst ne
      obtain ⟨hlt, _⟩ := List.getElem?_eq_some_iff.mp he
      have hlt' : j < env.length := by simpa using hlt
      rw [List.getElem?_set_self hlt'] at he
      cases he
      refine ⟨p, List.getElem?_set_self (by rw [← r.len]; exact hlt'), .inr rfl, fun z => ?_, q⟩
      exact (Trk.not r.tr hp) (r.sub0 p z)
    · rw [List.getElem?_set_ne (Ne.symm ne)] at hm he ⊢
      obtain ⟨a, ea, oa, na, ra⟩ := r.ow j e hm he
      exact ⟨a, ea, .inl oa, na, ra.same s sub⟩
  · have new : ∀ {x : Nat} {y : D} {b : Addr}, M[x]? = some .ow → env[x]? = some (some y) → σ[x]? = some (some (.ref b)) → b ≠ p := fun {x y b} hm he hs z => by
      subst z
      obtain ⟨b', eb, ob, _, _⟩ := r.ow x y hm he
      rw [hs] at eb
      cases eb
      exact Trk.not r.tr hp ob
    have self : ∀ {x : Nat} {y : D} {b : Addr}, (env.set x (some d))[x]? = some (some y) → (σ.set x (some (.ref p)))[x]? = some (some (V.ref b)) → b = p := fun {x y b} he hs => by
      obtain ⟨hlt, _⟩ := List.getElem?_eq_some_iff.mp hs
      rw [List.getElem?_set_self (by simpa using hlt)] at hs
      cases hs; rfl
    by_cases n1 : j = i
    · subst n1
      by_cases n2 : l = j
      · exact n2.symm
      · rw [List.getElem?_set_ne (Ne.symm n2)] at h2 h4 h6
        have e1 := self h3 h5
        subst e1
        exact absurd rfl (new h2 h4 h6)
    · by_cases n2 : l = i
      · subst n2
        rw [List.getElem?_set_ne (Ne.symm n1)] at h1 h3 h5
        have e1 := self h4 h6
        subst e1
        exact absurd rfl (new h1 h3 h5)
      · rw [List.getElem?_set_ne (Ne.symm n1)] at h1 h3 h5
        rw [List.getElem?_set_ne (Ne.symm n2)] at h2 h4 h6
        exact r.dist j l e f a h1 h2 h3 h4 h5 h6
  · have ne : j ≠ i := fun z => by
      subst z
      obtain ⟨hlt, _⟩ := List.getElem?_eq_some_iff.mp hm
      rw [List.getElem?_set_self (by simpa using hlt)] at hm; cases hm
    rw [List.getElem?_set_ne (Ne.symm ne)] at hm ⊢
    exact r.exs j a hm
/-- an owned object is written -/
theorem SR.write {H0 H : Hp} {O0 O : AS} {M : List Md} {env : Env'} {σ : L2.St} {d d' : D} {p : Addr} {o : HO} (i : Nat) (r : SR H0 O0 M O env σ H) (hm : M[i]? = some .ow) (he : env[i]? = some (some d)) (hs : σ[i]? = some (some (.ref p))) (mu : Mut (some o))
    (q : Rt (upd H p o) O d' p) : Sub H O (upd H p o) O ∧ SR H0 O0 M O (env.set i (some d')) σ (upd H p o) := by
  obtain ⟨a, ea, oa, na, ra⟩ := r.ow i d hm he
  rw [hs] at ea
  cases ea
  have sub : Sub H O (upd H p o) O := Sub.upd oa
  refine ⟨sub, ⟨fun b u e => ?_, r.sub0, fun b hb => ?_, r.new, by simpa using r.len, fun j e hm' he' => ?_, fun j e hm' he' => ?_, fun j l e f a' h1 h2 h3 h4 h5 h6 => ?_, r.exs⟩⟩
  · have ne : b ≠ p := fun z => by
      subst z
      rcases r.new b oa with z | z
      · exact na z
      · rw [e] at z; cases z
    rw [upd_ne ne]
    exact r.same b u e
  · by_cases ne : b = p
    · subst ne; exact ⟨o, upd_same, mu⟩
    · obtain ⟨u, e, m⟩ := r.tr b hb
      exact ⟨u, by rw [upd_ne ne]; exact e, m⟩
  · have ne : j ≠ i := fun z => by subst z; rw [hm] at hm'; cases hm'
    rw [List.getElem?_set_ne (Ne.symm ne)] at he'
    obtain ⟨v, ev, qv⟩ := r.fz j e hm' he'
    exact ⟨v, ev, qv.mono sub⟩
  · by_cases ne : j = i
    · subst ne
      obtain ⟨hlt, _⟩ := List.getElem?_eq_some_iff.mp he
      rw [List.getElem?_set_self hlt] at he'
      cases he'
      exact ⟨p, hs, oa, na, q⟩
    · rw [List.getElem?_set_ne (Ne.symm ne)] at he'
      obtain ⟨b, eb, ob, nb, rb⟩ := r.ow j e hm' he'
      refine ⟨b, eb, ob, nb, rb.mono sub (upd_ne fun z => ?_)⟩
      subst z
      exact ne (r.dist j i e d b hm' hm he' he eb hs)
  · have old : ∀ {x : Nat} {y : D}, (env.set i (some d'))[x]? = some (some y) → ∃ y', env[x]? = some (some y') := fun {x y} hx => by
      by_cases ne : x = i
      · subst ne; exact ⟨d, he⟩
      · rw [List.getElem?_set_ne (Ne.symm ne)] at hx
        exact ⟨y, hx⟩
    obtain ⟨e', h3'⟩ := old h3
    obtain ⟨f', h4'⟩ := old h4
    exact r.dist j l e' f' a' h1 h2 h3' h4' h5 h6
end DL

namespace DL
open PySem PySem.Spec L2
section
variable {X : Cx} {G : Gd} {L : Lp} {M M' M'' : List Md} {k ka kb : Kd} {a b e : Expr} {m ma mb : Env' → Res D} {nc : Env' → Res Bool} {pos : Pos} {st : Stmt} {sts : List Stmt} {o o1 o2 : Env' → Out}

def exOut {α : Type} (r : Res α) (env : Env') (f : α → Out) : Out := match r with
  | .ok d => f d
  | .exc c d => .exc c d env
  | .err => .err
@[simp] theorem exOut_ok {α : Type} (a : α) (env : Env') (f : α → Out) : exOut (.ok a) env f = f a := rfl
@[simp] theorem exOut_exc {α : Type} (c : Str) (d : D) (env : Env') (f : α → Out) : exOut (.exc c d) env f = .exc c d env := rfl
@[simp] theorem exOut_err {α : Type} (env : Env') (f : α → Out) : exOut .err env f = .err := rfl
/-- what is wanted of an outcome -/
def OutOk (G : Gd) (L : Lp) (M' : List Md) (g : Gr G.ex) (O : AS) (H : Hp) (E : Ends) : Out → Prop
  | .nx e => ∀ σ' H' O', Sub H O H' O' → SR g.H0 g.O0 M' O' e σ' H' → E.nx σ' H'
  | .rt d => ∀ H' v, Same g.H0 H' → RK L.kr g.H0 g.O0 H' d v → E.rt v H'
  | .bk e => ∀ σ' H' O', Sub H O H' O' → SR g.H0 g.O0 L.Mb O' e σ' H' → E.bk σ' H'
  | .ct e => ∀ σ' H' O', Sub H O H' O' → SR g.H0 g.O0 L.Mb O' e σ' H' → E.ct σ' H'
  | .exc c d e => ∀ σ' H' O' dd cls va, Sub H O H' O' → SR g.H0 g.O0 L.Mx O' e σ' H' → G.mg c = some cls → H' dd = some (.xd [(("at" : Str), va)]) → Rp H' O' d va → G.W cls (some dd) σ' H'
  | .err => False
theorem tS_iff {E : Ends} {σ : L2.St} {H : Hp} : tS G L M M' o E σ H ↔ ∃ (g : Gr G.ex) (O : AS) (env : Env'), SR g.H0 g.O0 M O env σ H ∧ OutOk G L M' g O H E (o env) := by
  unfold tS OutOk
  constructor
  · rintro ⟨g, O, env, sr, q⟩
    refine ⟨g, O, env, sr, ?_⟩
    cases h : o env <;> rw [h] at q <;> exact q
  · rintro ⟨g, O, env, sr, q⟩
    refine ⟨g, O, env, sr, ?_⟩
    cases h : o env <;> rw [h] at q <;> exact q
theorem OutOk.sub {g : Gr G.ex} {O O1 : AS} {H H1 : Hp} {E : Ends} {x : Out} (s : Sub H O H1 O1) (q : OutOk G L M' g O H E x) : OutOk G L M' g O1 H1 E x := by
  cases x with
  | nx e => exact fun σ' H' O' s' => q σ' H' O' (s.trans s')
  | rt d => exact q
  | bk e => exact fun σ' H' O' s' => q σ' H' O' (s.trans s')
  | ct e => exact fun σ' H' O' s' => q σ' H' O' (s.trans s')
  | exc c d e => exact fun σ' H' O' dd cls va s' => q σ' H' O' dd cls va (s.trans s')
  | err => exact q
/-- the same outcome, wanted of other ends -/
theorem OutOk.ends {g : Gr G.ex} {O : AS} {H : Hp} {E E' : Ends} {x : Out} (q : OutOk G L M' g O H E x) (h1 : E'.nx = E.nx) (h2 : E'.rt = E.rt) (h3 : E'.bk = E.bk) (h4 : E'.ct = E.ct) : OutOk G L M' g O H E' x := by
  cases x with
  | nx e => exact fun σ' H' O' s r => by rw [h1]; exact q σ' H' O' s r
  | rt d => exact fun H' v s r => by rw [h2]; exact q H' v s r
  | bk e => exact fun σ' H' O' s r => by rw [h3]; exact q σ' H' O' s r
  | ct e => exact fun σ' H' O' s r => by rw [h4]; exact q σ' H' O' s r
  | exc c d e => exact q
  | err => exact q
/-- an expression ahead of the rest -/
theorem tE_go {g : Gr G.ex} {O : AS} {env : Env'} {σ : L2.St} {H : Hp} {Q : VK} {E : Ends} {f : D → Out} (sr : SR g.H0 g.O0 M O env σ H) (hx : mle M L.Mx = true) (q : OutOk G L M' g O H E (exOut (m env) env f))
    (hk : ∀ d, OutOk G L M' g O H E (f d) → ∀ H' v, Same H H' → RK k H O H' d v → Q v H') : tE G M k m σ H Q := by
  refine ⟨g, O, env, sr, ?_⟩
  cases h : m env with
  | err => rw [h] at q; exact q
  | exc c d =>
    rw [h] at q
    exact fun H' dd cls va s h1 h2 h3 => q σ H' O dd cls va (Sub.same s O) ((sr.grow s).weak hx) h1 h2 h3
  | ok d =>
    rw [h] at q
    exact hk d q
theorem tT_go {g : Gr G.ex} {O : AS} {env : Env'} {σ : L2.St} {H : Hp} {Q : Bool → Hp → Prop} {E : Ends} {f : Bool → Out} (sr : SR g.H0 g.O0 M O env σ H) (hx : mle M L.Mx = true) (q : OutOk G L M' g O H E (exOut (nc env) env f))
    (hk : ∀ d, OutOk G L M' g O H E (f d) → ∀ H', Same H H' → Q d H') : tT G M nc σ H Q := by
  refine ⟨g, O, env, sr, ?_⟩
  cases h : nc env with
  | err => rw [h] at q; exact q
  | exc c d =>
    rw [h] at q
    exact fun H' dd cls va s h1 h2 h3 => q σ H' O dd cls va (Sub.same s O) ((sr.grow s).weak hx) h1 h2 h3
  | ok d =>
    rw [h] at q
    exact hk d q

/-! ### blocks -/
def oSkip : Env' → Out := .nx
def oSeq (o1 o2 : Env' → Out) : Env' → Out := fun env => match o1 env with
  | .nx e => o2 e
  | x => x
theorem dss_nil : DSs X G L M M [] oSkip := pss_imp pss_nil fun E σ H h => by
  obtain ⟨g, O, env, sr, q⟩ := tS_iff.mp h
  exact q σ H O (Sub.refl _ _) sr
theorem tS_seq {E : Ends} {σ : L2.St} {H : Hp} (h : tS G L M M'' (oSeq o1 o2) E σ H) : tS G L M M' o1 { E with nx := tS G L M' M'' o2 E } σ H := by
  obtain ⟨g, O, env, sr, q⟩ := tS_iff.mp h
  refine tS_iff.mpr ⟨g, O, env, sr, ?_⟩
  unfold oSeq at q
  cases h1 : o1 env with
  | nx e =>
    rw [h1] at q
    exact fun σ' H' O' s r => tS_iff.mpr ⟨g, O', e, r, q.sub s⟩
  | rt d => rw [h1] at q; exact q
  | bk e => rw [h1] at q; exact q
  | ct e => rw [h1] at q; exact q
  | exc c d e => rw [h1] at q; exact q
  | err => rw [h1] at q; exact q
theorem dss_cons (h1 : DS X G L M M' st o1) (h2 : DSs X G L M' M'' sts o2) : DSs X G L M M'' (st :: sts) (oSeq o1 o2) := pss_imp (pss_cons h1 h2) fun E σ H h => tS_seq h
theorem dss_one (h1 : DS X G L M M' st o) : DSs X G L M M' [st] o := pss_one h1
/-- an owned slot is frozen from here on -/
theorem dss_freeze (i : Nat) (hi : M[i]? = some .ow) (h : DSs X G L (M.set i .fz) M' sts o) : DSs X G L M M' sts o := pss_imp h fun E σ H h => by
  obtain ⟨g, O, env, sr, q⟩ := tS_iff.mp h
  obtain ⟨O', sub, sr'⟩ := sr.freeze i hi
  exact tS_iff.mpr ⟨g, O', env, sr', q.sub sub⟩
/-- modes are forgotten behind -/
theorem tS_weakR {N : List Md} {E : Ends} {σ : L2.St} {H : Hp} (hw : mle M' N = true) (h : tS G L M N o E σ H) : tS G L M M' o E σ H := by
  obtain ⟨g, O, env, sr, q⟩ := tS_iff.mp h
  refine tS_iff.mpr ⟨g, O, env, sr, ?_⟩
  cases h1 : o env with
  | nx e => rw [h1] at q; exact fun σ' H' O' s r => q σ' H' O' s (r.weak hw)
  | rt d => rw [h1] at q; exact q
  | bk e => rw [h1] at q; exact q
  | ct e => rw [h1] at q; exact q
  | exc c d e => rw [h1] at q; exact q
  | err => rw [h1] at q; exact q
theorem dss_weakR {N : List Md} (hw : mle M' N = true) (h : DSs X G L M M' sts o) : DSs X G L M N sts o := pss_imp h fun E σ H h => tS_weakR hw h
/-- .. ahead -/
theorem tS_weakL {N : List Md} {E : Ends} {σ : L2.St} {H : Hp} (hw : mle N M = true) (h : tS G L N M' o E σ H) : tS G L M M' o E σ H := by
  obtain ⟨g, O, env, sr, q⟩ := tS_iff.mp h
  exact tS_iff.mpr ⟨g, O, env, sr.weak hw, q⟩
theorem dss_weakL {N : List Md} (hw : mle N M = true) (h : DSs X G L M M' sts o) : DSs X G L N M' sts o := pss_imp h fun E σ H h => tS_weakL hw h
/-- a block that never goes on: any modes behind -/
theorem tS_stop {E : Ends} {σ : L2.St} {H : Hp} {N : List Md} (hn : ∀ env e, o env ≠ .nx e) (h : tS G L M N o E σ H) : tS G L M M' o E σ H := by
  obtain ⟨g, O, env, sr, q⟩ := tS_iff.mp h
  refine tS_iff.mpr ⟨g, O, env, sr, ?_⟩
  cases h1 : o env with
  | nx e => exact absurd h1 (hn env e)
  | rt d => rw [h1] at q; exact q
  | bk e => rw [h1] at q; exact q
  | ct e => rw [h1] at q; exact q
  | exc c d e => rw [h1] at q; exact q
  | err => rw [h1] at q; exact q
/-- a statement whose modes behind are any: pass, break, continue, return -/
theorem ds_pass : DS X G L M M (.Pass pos) oSkip := ps_imp ps_pass fun E σ H h => by
  obtain ⟨g, O, env, sr, q⟩ := tS_iff.mp h
  exact q σ H O (Sub.refl _ _) sr
theorem ds_break (hb : mle M L.Mb = true) : DS X G L M M' (.Break pos) .bk := ps_imp ps_break fun E σ H h => by
  obtain ⟨g, O, env, sr, q⟩ := tS_iff.mp h
  exact q σ H O (Sub.refl _ _) (sr.weak hb)
theorem ds_continue (hb : mle M L.Mb = true) : DS X G L M M' (.Continue pos) .ct := ps_imp ps_continue fun E σ H h => by
  obtain ⟨g, O, env, sr, q⟩ := tS_iff.mp h
  exact q σ H O (Sub.refl _ _) (sr.weak hb)
def oRet (m : Env' → Res D) : Env' → Out := fun env => exOut (m env) env .rt
theorem ds_ret (hx : mle M L.Mx = true) (hk : L.kr = .pl) (he : DE X G M .pl e m) : DS X G L M M' (.Return (some e) pos) (oRet m) := ps_imp (ps_ret he) fun E σ H h => by
  obtain ⟨g, O, env, sr, q⟩ := tS_iff.mp h
  refine tE_go sr hx q fun d q H' v s r => q H' v (sr.same.trans s) ?_
  rw [hk]
  exact Rp.mono (Sub.less sr.sub0) r
theorem ds_retF (hx : mle M L.Mx = true) (hk : L.kr = .fr) (he : DE X G M .fr e m) : DS X G L M M' (.Return (some e) pos) (oRet m) := ps_imp (ps_ret he) fun E σ H h => by
  obtain ⟨g, O, env, sr, q⟩ := tS_iff.mp h
  refine tE_go sr hx q fun d q H' v s r => q H' v (sr.same.trans s) ?_
  rw [hk]
  obtain ⟨p, e, n, r⟩ := r
  exact ⟨p, e, sr.same.free n, r.mono (Sub.less fun b z => z.elim (fun z => .inl (sr.sub0 b z)) .inr) rfl⟩
/-- return x, x owned -/
theorem ds_retO {i : Nat} (hi : M[i]? = some .ow) (hk : L.kr = .fr) (he : PE X e (tVar i)) : DS X G L M M' (.Return (some e) pos) (oRet (mVar i)) := ps_imp (ps_ret he) fun E σ H h => by
  obtain ⟨g, O, env, sr, q⟩ := tS_iff.mp h
  unfold oRet mVar at q
  cases he : env[i]? with
  | none => rw [he] at q; exact q.elim
  | some o =>
    cases o with
    | none => rw [he] at q; exact q.elim
    | some d =>
      rw [he] at q
      obtain ⟨p, ev, op, np, r⟩ := sr.ow i d hi he
      refine ⟨_, ev, q H _ sr.same ?_⟩
      rw [hk]
      refine ⟨p, rfl, ?_, r.mono (Sub.less fun b z => z.elim (fun z => sr.sub0 b z) fun z => z ▸ op) rfl⟩
      rcases sr.new p op with z | z
      · exact absurd z np
      · exact z
theorem ds_retN (hk : L.kr = .pl) : DS X G L M M' (.Return none pos) (fun _ => .rt .none) := ps_imp ps_retN fun E σ H h => by
  obtain ⟨g, O, env, sr, q⟩ := tS_iff.mp h
  exact q H _ sr.same (by rw [hk]; exact .non)
def oDrop (m : Env' → Res D) : Env' → Out := fun env => exOut (m env) env fun _ => .nx env
theorem ds_expr (hx : mle M L.Mx = true) (he : DE X G M k e m) (hs : swapsWith e none pos.line X.env = pure false := by rfl) : DS X G L M M (.Expr e pos) (oDrop m) := ps_imp (ps_expr he hs) fun E σ H h => by
  obtain ⟨g, O, env, sr, q⟩ := tS_iff.mp h
  exact tE_go sr hx q fun d q H' v s r => q σ H' O (Sub.same s O) (sr.grow s)
def oIf (nc : Env' → Res Bool) (o1 o2 : Env' → Out) : Env' → Out := fun env => exOut (nc env) env fun b => if b = true then o1 env else o2 env
theorem ds_if {c : Expr} {xs ys : List Stmt} (hx : mle M L.Mx = true) (hc : DT X G M c nc) (ha : DSs X G L M M' xs o1) (hb : DSs X G L M M' ys o2) : DS X G L M M' (.If c xs ys pos) (oIf nc o1 o2) := ps_imp (ps_if hc ha hb) fun E σ H h => by
  obtain ⟨g, O, env, sr, q⟩ := tS_iff.mp h
  refine tT_go sr hx q fun b q H' s => ?_
  cases b with
  | true =>
    rw [if_pos rfl] at q ⊢
    exact tS_iff.mpr ⟨g, O, env, sr.grow s, q.sub (Sub.same s O)⟩
  | false =>
    rw [if_neg Bool.false_ne_true] at q ⊢
    exact tS_iff.mpr ⟨g, O, env, sr.grow s, q.sub (Sub.same s O)⟩

/-! ### targets -/
/-- only the slots vs have changed -/
def Only' (vs : List Nat) (σ σ' : L2.St) : Prop := σ'.length = σ.length ∧ ∀ i, i ∉ vs → σ'[i]? = σ[i]?
theorem Only'.refl (σ : L2.St) : Only' [] σ σ := ⟨rfl, fun _ _ => rfl⟩
theorem Only'.trans {vs ws : List Nat} {σ σ1 σ2 : L2.St} (a : Only' vs σ σ1) (b : Only' ws σ1 σ2) : Only' (vs ++ ws) σ σ2 :=
  ⟨b.1.trans a.1, fun i h => (b.2 i fun z => h (List.mem_append_right _ z)).trans (a.2 i fun z => h (List.mem_append_left _ z))⟩
def tG (M M' : List Md) (ws : List Nat) (f : D → Env' → Option Env') : TG := fun v σ H Q => ∃ (ex : Option (Addr × D)) (g : Gr ex) (O : AS) (env : Env') (d : D), SR g.H0 g.O0 M O env σ H ∧ Rp H O d v ∧ match f d env with
  | some e => ∀ σ' H' O', Only' ws σ σ' → Same H H' → Sub H O H' O' → SR g.H0 g.O0 M' O' e σ' H' → O' = O → Q σ' H'
  | none => False
def tGs (M M' : List Md) (ws : List Nat) (f : List D → Env' → Option Env') : TGs := fun vs σ H Q => ∃ (ex : Option (Addr × D)) (g : Gr ex) (O : AS) (env : Env') (ds : List D), SR g.H0 g.O0 M O env σ H ∧ RpA H O ds vs ∧ match f ds env with
  | some e => ∀ σ' H' O', Only' ws σ σ' → Same H H' → Sub H O H' O' → SR g.H0 g.O0 M' O' e σ' H' → O' = O → Q σ' H'
  | none => False
def DG (X : Cx) (M M' : List Md) (ws : List Nat) (e : Expr) (f : D → Env' → Option Env') : Prop := PG X e (tG M M' ws f)
def DGs (X : Cx) (M M' : List Md) (ws : List Nat) (es : List Expr) (f : List D → Env' → Option Env') : Prop := PGs X es (tGs M M' ws f)
theorem pg_imp {X : Cx} {e : Expr} {t t' : TG} (h : PG X e t) (i : ∀ v σ H Q, t' v σ H Q → t v σ H Q) : PG X e t' := ⟨fun pins s σ H v u Q I r q => h.run pins s σ H v u Q I r (i v σ H Q q)⟩
theorem pgs_imp {X : Cx} {e : List Expr} {t t' : TGs} (h : PGs X e t) (i : ∀ v σ H Q, t' v σ H Q → t v σ H Q) : PGs X e t' := ⟨fun pins s σ H v u Q I r q => h.run pins s σ H v u Q I r (i v σ H Q q)⟩
def gN (i : Nat) : D → Env' → Option Env' := fun d env => some (env.set i (some d))
def gsN : List D → Env' → Option Env' := fun ds env => match ds with
  | [] => some env
  | _ => none
def gsC (f : D → Env' → Option Env') (fs : List D → Env' → Option Env') : List D → Env' → Option Env' := fun ds env => match ds with
  | d :: ds => (f d env).bind (fs ds)
  | [] => none
variable {f : D → Env' → Option Env'} {fs : List D → Env' → Option Env'} {es : List Expr} {ws ws' : List Nat}
theorem dg_nameG {i : Nat} {e : Expr} (h : PG X e (gName i)) : DG X M (M.set i .fz) [i] e (gN i) := pg_imp h fun v σ H Q ⟨ex, g, O, env, d, sr, r, q⟩ => q _ _ O ⟨by simp, fun j hj => by
  have ne : j ≠ i := fun z => hj (by simp [z])
  exact List.getElem?_set_ne (Ne.symm ne)⟩ (Same.refl _) (Sub.refl _ _) (sr.setF i r) rfl
theorem dg_name {i : Nat} {x : Str} (hN : X.N.Nodup) (hi : X.N[i]? = some x) (hx : Loc X.env.scope x) (hf : X.fn x = true ∨ X.env.scope.names.lookup x = some .local := by first | exact .inl rfl | exact .inr rfl | assumption) : DG X M (M.set i .fz) [i] (.Name x pos) (gN i) := dg_nameG (pg_name hN hi hx hf)
theorem dgs_nil : DGs X M M [] [] gsN := pgs_imp pgs_nil fun vs σ H Q ⟨ex, g, O, env, ds, sr, r, q⟩ => by
  cases r with
  | nil => exact ⟨rfl, q _ _ O (Only'.refl _) (Same.refl _) (Sub.refl _ _) sr rfl⟩
  | cons a b => exact q.elim
theorem dgs_cons (h1 : DG X M M' ws e f) (h2 : DGs X M' M'' ws' es fs) (hs : (assignEach (e :: es) X.env).map (·.2) = assign e X.env :: (assignEach es X.env).map (·.2) := by rfl) : DGs X M M'' (ws ++ ws') (e :: es) (gsC f fs) := pgs_imp (pgs_cons h1 h2 hs) fun vs σ H Q ⟨ex, g, O, env, ds, sr, r, q⟩ => by
  cases r with
  | nil => exact q.elim
  | cons a b =>
    refine ⟨_, _, rfl, ex, g, O, env, _, sr, a, ?_⟩
    unfold gsC at q
    simp only at q
    cases h : f _ env with
    | none => rw [h] at q; exact q
    | some e1 =>
      rw [h] at q
      exact fun σ' H' O' on sm s sr' eo => ⟨ex, g, O', e1, _, sr', b.mono s, by
        simp only [Option.bind_some] at q
        cases h2 : fs _ e1 with
        | none => rw [h2] at q; exact q
        | some e2 => rw [h2] at q; exact fun σ2 H2 O2 on2 sm2 s2 sr2 eo2 => q σ2 H2 O2 (on.trans on2) (sm.trans sm2) (s.trans s2) sr2 (eo2.trans eo)⟩
def gT' (n : Nat) (f : List D → Env' → Option Env') : D → Env' → Option Env' := fun d env => match d with
  | .tuple ds => if ds.length = n then f ds env else none
  | _ => none
theorem dg_tup {kk n : Nat} (hc : X.calm = true) (h : DGs X M M' ws es fs) (hn : (assignEach es X.env).length = n := by rfl) (hst : (assignEach es X.env).findIdx? (·.1) = none := by rfl) : DG X M M' ws (.Tuple es kk pos) (gT' n fs) := pg_imp (pg_tup hc h hn hst) fun v σ H Q ⟨ex, g, O, env, d, sr, r, q⟩ => by
  cases d <;> simp only [gT'] at q
  case tuple ds =>
    cases r with
    | tup h1 h2 h3 =>
      by_cases hl : ds.length = n
      · rw [if_pos hl] at q
        exact ⟨_, _, rfl, Rd.seqT h2, by rw [← h3.length]; exact hl, ex, g, O, env, ds, sr, h3, q⟩
      · rw [if_neg hl] at q
        exact q.elim
/-! ### assignment -/
def oAsg (m : Env' → Res D) (f : D → Env' → Option Env') : Env' → Out := fun env => exOut (m env) env fun d => match f d env with
  | some e => .nx e
  | none => .err
theorem ds_asg {tg e : Expr} (hx : mle M L.Mx = true) (he : DE X G M .pl e m) (hg : DG X M M' ws tg f) (hs : swapsWithSole [tg] e pos.line X.env = pure false := by rfl) (hw : swappedStores [tg] e X.env = pure none := by rfl) (h1 : (assignEach [tg] X.env).map (·.2) = [assign tg X.env] := by rfl) : DS X G L M M' (.Assign [tg] e pos) (oAsg m f) :=
  ps_imp (ps_asg he hg hs hw h1) fun E σ H h => by
    obtain ⟨g, O, env, sr, q⟩ := tS_iff.mp h
    refine tE_go sr hx q fun d q H' v s r => ⟨_, g, O, env, d, sr.grow s, r, ?_⟩
    cases h1 : f d env with
    | none => rw [h1] at q; exact q
    | some e1 => rw [h1] at q; exact fun σ2 H2 O2 _ _ s2 sr2 _ => q σ2 H2 O2 ((Sub.same s O).trans s2) sr2
/-- name = a new object -/
def oSet (i : Nat) (m : Env' → Res D) : Env' → Out := fun env => exOut (m env) env fun d => .nx (env.set i (some d))
theorem ds_setG {i : Nat} {st : Stmt} (hx : mle M L.Mx = true) (hp : ∀ te, PE X e te → PS X st (tAsg te (gName i))) (he : DE X G M .fr e m) : DS X G L M (M.set i .ow) st (oSet i m) := ps_imp (hp _ he) fun E σ H h => by
  obtain ⟨g, O, env, sr, q⟩ := tS_iff.mp h
  refine tE_go sr hx q fun d q H' v s r => ?_
  obtain ⟨p, rfl, n, r⟩ := r
  obtain ⟨sub, sr'⟩ := sr.setO i s n r
  exact q _ _ _ sub sr'
theorem ds_setO {i : Nat} {x : Str} {pos' : Pos} (hx : mle M L.Mx = true) (hN : X.N.Nodup) (hi : X.N[i]? = some x) (hl : Loc X.env.scope x) (he : DE X G M .fr e m) (hs : swapsWith e (some (.Name x pos')) pos.line X.env = pure false := by rfl)
    (hf : X.fn x = true ∨ X.env.scope.names.lookup x = some .local := by first | exact .inl rfl | exact .inr rfl | assumption) : DS X G L M (M.set i .ow) (.Assign [.Name x pos'] e pos) (oSet i m) := ds_setG hx (fun te h => ps_set hN hi hl h hs hf) he
theorem ds_setP {i : Nat} {st : Stmt} (hx : mle M L.Mx = true) (hp : ∀ te, PE X e te → PS X st (tAsg te (gName i))) (he : DE X G M .pl e m) : DS X G L M (M.set i .fz) st (oSet i m) := ps_imp (hp _ he) fun E σ H h => by
  obtain ⟨g, O, env, sr, q⟩ := tS_iff.mp h
  exact tE_go sr hx q fun d q H' v s r => q _ _ O (Sub.same s O) ((sr.grow s).setF i r)
theorem ds_set {i : Nat} {x : Str} {pos' : Pos} (hx : mle M L.Mx = true) (hN : X.N.Nodup) (hi : X.N[i]? = some x) (hl : Loc X.env.scope x) (he : DE X G M .pl e m) (hs : swapsWith e (some (.Name x pos')) pos.line X.env = pure false := by rfl)
    (hf : X.fn x = true ∨ X.env.scope.names.lookup x = some .local := by first | exact .inl rfl | exact .inr rfl | assumption) : DS X G L M (M.set i .fz) (.Assign [.Name x pos'] e pos) (oSet i m) := ds_setP hx (fun te h => ps_set hN hi hl h hs hf) he
/-- name op= e, ints and texts -/
def I2 (r : TIp) (f : D → D → Option D) : Prop := ∀ {H : Hp} {O : AS} {x y : V} {dx dy d : D} {Q : VK}, Trk H O → Rp H O dx x → Rp H O dy y → f dx dy = some d → (∀ H' v, Same H H' → Rp H' O d v → Q v H') → r x y H Q
def oAug (i : Nat) (f : D → D → Option D) (m : Env' → Res D) : Env' → Out := fun env => exOut (mVar i env) env fun x => exOut (m env) env fun y => match f x y with
  | some d => .nx (env.set i (some d))
  | none => .err
theorem ds_augG {i : Nat} {st : Stmt} {ti : TIp} {fo : D → D → Option D} (hx : mle M L.Mx = true) (hi : M[i]? = some .fz) (hp : ∀ te, PE X e te → PS X st (tAug i te ti)) (hI : I2 ti fo) (he : DE X G M .pl e m) : DS X G L M (M.set i .fz) st (oAug i fo m) := ps_imp (hp _ he) fun E σ H h => by
  obtain ⟨g, O, env, sr, q⟩ := tS_iff.mp h
  unfold oAug mVar at q
  cases e1 : env[i]? with
  | none => rw [e1] at q; exact q.elim
  | some o =>
    cases o with
    | none => rw [e1] at q; exact q.elim
    | some x =>
      rw [e1] at q
      obtain ⟨v, ev, r⟩ := sr.fz i x hi e1
      refine ⟨v, ev, tE_go sr hx q fun y q H1 w s r1 => ?_⟩
      cases hf : fo x y with
      | none => rw [hf] at q; exact q.elim
      | some d =>
        rw [hf] at q
        exact hI (Trk.grow sr.tr s) (r.mono (Sub.same s O)) r1 hf fun H' z s' r' => q _ _ O (Sub.same (s.trans s') O) ((sr.grow (s.trans s')).setF i r')
theorem Rp.int_inv {H : Hp} {O : AS} {i : Int} {v : V} (r : Rp H O (.int i) v) : v = .int i := Rc.int_inv (.of r)
theorem i2_add : I2 (ipI fun i j => i + j) (fun x y => match x, y with | .int i, .int j => some (.int (i + j)) | _, _ => none) := by
  intro H O x y dx dy d Q tr rx ry hf q
  cases dx <;> cases dy <;> simp only at hf <;> try cases hf
  cases rx.int_inv; cases ry.int_inv
  exact ⟨_, _, rfl, rfl, q H _ (Same.refl H) (.int _)⟩
theorem i2_sub : I2 (ipI fun i j => i - j) subD := by
  intro H O x y dx dy d Q tr rx ry hf q
  cases dx <;> cases dy <;> simp only [subD] at hf <;> try cases hf
  cases rx.int_inv; cases ry.int_inv
  exact ⟨_, _, rfl, rfl, q H _ (Same.refl H) (.int _)⟩
/-! ### methods of an owned list, as statements -/
def oMut (i : Nat) (f : D → List D → Option D) (ms : Env' → Res (List D)) : Env' → Out := fun env => exOut (mVar i env) env fun _ => exOut (ms env) env fun ds => match env[i]? with
  | some (some x) => match f x ds with
    | some d => .nx (env.set i (some d))
    | none => .err
  | _ => .err
/-- a statement that writes the object of slot i: at p it is d, behind it d' -/
def MutR (r : V → List V → Hp → VK → Prop) (f : D → List D → Option D) : Prop := ∀ {H : Hp} {O : AS} {p : Addr} {vs : List V} {dx : D} {ds : List D} {d : D} {Q : VK}, Rt H O dx p → RpA H O ds vs → f dx ds = some d →
  (∀ o, Mut (some o) → Rt (upd H p o) O d p → O p → Q .non (upd H p o)) → O p → r (.ref p) vs H Q
end
end DL

namespace DL
open PySem PySem.Spec L2
section
variable {X : Cx} {G : Gd} {L : Lp} {M M' M'' : List Md} {k ka kb : Kd} {a b e : Expr} {m ma mb : Env' → Res D} {ms : Env' → Res (List D)} {nc : Env' → Res Bool} {pos : Pos} {st : Stmt} {sts : List Stmt} {o o1 o2 : Env' → Out} {t : TA}
variable {f : D → Env' → Option Env'} {ws : List Nat}

/-! ### an owned list is written -/
theorem Rt.list_inv {H : Hp} {O : AS} {ds : List D} {p : Addr} (r : Rt H O (.list ds) p) : ∃ xs, H p = some (.lst xs) ∧ RpA H O ds xs := by
  cases r with | lst e q => exact ⟨_, e, q⟩
theorem tyV_list {K : PySem.W.Frag} {H : Hp} {p : Addr} {xs : List V} (e : H p = some (.lst xs)) : tyV K "list" (.ref p) H := .inl ⟨rfl, xs, SqL.of e⟩
/-- the items behind the method, by the items and the arguments -/
def LM (r : V → List V → Hp → VK → Prop) (fl : List D → List D → Option (List D)) : Prop := ∀ {H : Hp} {O : AS} {p : Addr} {xs vs : List V} {is ds js : List D} {Q : VK}, H p = some (.lst xs) → RpA H O is xs → RpA H O ds vs → ¬ (∃ q ∈ vs, q = .ref p) → fl is ds = some js →
  (∀ ys, RpA H O js ys → Q .non (upd H p (.lst ys))) → r (.ref p) vs H Q
def oLM (i : Nat) (fl : List D → List D → Option (List D)) (ms : Env' → Res (List D)) : Env' → Out := fun env => match env[i]? with
  | some (some (.list is)) => exOut (ms env) env fun ds => match fl is ds with
    | some js => .nx (env.set i (some (.list js)))
    | none => .err
  | _ => .err
theorem RpA.not_ref {H : Hp} {O : AS} {p : Addr} (ho : O p) : ∀ {ds : List D} {vs : List V}, RpA H O ds vs → ¬ (∃ q ∈ vs, q = .ref p)
  | _, _, .nil => fun ⟨q, h, _⟩ => nomatch h
  | _, _, .cons a b => fun ⟨q, h, e⟩ => by
    rcases List.mem_cons.mp h with z | z
    · subst z; subst e
      cases a with
      | lst h1 _ _ => exact h1 ho
      | tup h1 _ _ => exact h1 ho
      | dK h1 _ _ => exact h1 ho
      | dT h1 _ _ => exact h1 ho
    · exact RpA.not_ref ho b ⟨q, z, e⟩
theorem ds_lm {i : Nat} {st : Stmt} {r : V → List V → Hp → VK → Prop} {fl : List D → List D → Option (List D)} {es : List Expr} (hx : mle M L.Mx = true) (hi : M[i]? = some .ow) (hr : LM r fl) (ha : DA X G M .pl es ms)
    (hp : ∀ t, PA X es t → PS X st (tDrop (tBM X.K "list" r (tVar i) t))) : DS X G L M M st (oLM i fl ms) := ps_imp (hp _ ha) fun E σ H h => by
  obtain ⟨g, O, env, sr, q⟩ := tS_iff.mp h
  unfold oLM at q
  cases e1 : env[i]? with
  | none => rw [e1] at q; exact q.elim
  | some x =>
    cases x with
    | none => rw [e1] at q; exact q.elim
    | some x =>
      rw [e1] at q
      cases x with
      | list is =>
        obtain ⟨p, ev, op, np, rt⟩ := sr.ow i _ hi e1
        obtain ⟨xs, hp, rx⟩ := rt.list_inv
        refine ⟨_, ev, tyV_list hp, g, O, env, sr, ?_⟩
        simp only at q
        cases h1 : ms env with
        | err => rw [h1] at q; exact q
        | exc c d =>
          rw [h1] at q
          exact fun H' dd cls va s h1 h2 h3 => q σ H' O dd cls va (Sub.same s O) ((sr.grow s).weak hx) h1 h2 h3
        | ok ds =>
          rw [h1, exOut_ok] at q
          intro H1 vs s1 r1
          have r1 : RpA H1 O ds vs := r1
          cases h2 : fl is ds with
          | none => rw [h2] at q; exact q.elim
          | some js =>
            rw [h2] at q
            refine hr (s1 _ _ hp) (rx.mono (Sub.same s1 O)) r1 (r1.not_ref op) h2 fun ys ry => ?_
            obtain ⟨sub, sr'⟩ := (sr.grow s1).write i hi e1 ev (o := .lst ys) trivial (.lst upd_same (ry.mono (Sub.upd op)))
            exact q σ _ O ((Sub.same s1 O).trans sub) sr'
      | _ => exact q.elim
/-- xs.append(e) -/
def lApp : List D → List D → Option (List D) := fun is ds => match ds with
  | [d] => if is.length < sizeLine then some (is ++ [d]) else none
  | _ => none
theorem lm_append : LM rAppend lApp := by
  intro H O p xs vs is ds js Q hp rx rv _ hf q
  unfold lApp at hf
  split at hf
  · split at hf
    · rename_i hz
      cases hf
      cases rv with | cons a b =>
        cases b
        exact ⟨p, xs, _, rfl, rfl, hp, by rw [← rx.length]; exact hz, q _ (rx.append (.cons a .nil))⟩
    · cases hf
  · cases hf
theorem ds_append {i : Nat} {recv arg : Expr} {apos cpos spos : Pos} (hx : mle M L.Mx = true) (hi : M[i]? = some .ow) (hr : PE X recv (tVar i)) (ha : DE X G M .pl arg m)
    (hbase : attributeBase recv "append" X.env (eval recv X.env) = eval recv X.env := by rfl)
    (hfew : ((backTo cpos (starEach [arg] X.env)).all (fun x => !x.1) && (backToKw cpos (keywordEach [] X.env)).all (fun x => x.1.isSome)
      && decide ([arg].length + ([] : List Keyword).length + (if ([] : List Keyword).isEmpty then 0 else 1) < 30)) = true := by rfl)
    (hline : (apos.endLine == cpos.line) = true := by rfl) (hs : starEach [arg] X.env = [(false, eval arg X.env)] := by rfl)
    (hsw : swapsWith (.Call (.Attribute recv "append" apos) [arg] [] cpos) none spos.line X.env = pure false := by rfl) :
    DS X G L M M (.Expr (.Call (.Attribute recv "append" apos) [arg] [] cpos) spos) (oLM i lApp (aCons m aNil)) :=
  ds_lm hx hi lm_append (da_cons ha da_nil hs) fun t h => ps_expr (pe_bm PySem.F.plainAttrs_list PySem.F.slot_list_append PySem.F.type_list_append mt_append hr h hbase hfew hline hs) hsw
/-- xs.extend(ys), ys a list -/
def rExt2 : V → List V → Hp → VK → Prop := fun x vs H Q => ∃ l b xs zs, x = .ref l ∧ vs = [.ref b] ∧ H l = some (.lst xs) ∧ L2.Rd H b (.lst zs) ∧ xs.length + zs.length ≤ sizeLine ∧ Q .non (upd H l (.lst (xs ++ zs)))
theorem mt_ext2 : MtM X "list.extend" rExt2 := by
  intro pins s σ H x vs v us Q I rx rv h
  obtain ⟨l, b, xs, zs, rfl, rfl, hH, hB, hz, q⟩ := h
  cases rx
  obtain ⟨u, rfl, ru⟩ := rv.one
  cases ru
  obtain ⟨z, its, n, r, hl, e⟩ := I.lstM hH
  obtain ⟨z2, its2, n2, r2, e2⟩ := hB.ok I.hok
  have hl2 := r2.length
  have hsz : its.toArray.size + its2.toArray.size ≤ sizeLine := by rw [List.size_toArray, List.size_toArray]; omega
  have hlong : ¬ (!its.toArray.isEmpty && Builtin.List.listTooLong (its.toArray.size + its2.toArray.size)) = true := by
    rw [notLongL hsz, Bool.and_false]
    exact Bool.false_ne_true
  refine PySem.call_meets PySem.F.slot_list_extend ⟨_, e, rfl⟩ PySem.F.entry_list_extend (PySem.F.args_list_extend_2 _ _)
    (AutoSeq1.list_extend_list_list_0 l its.toArray n b its2.toArray n2 hlong (by first | omega | (rw [List.size_toArray]; omega) | (simp only [List.size_toArray] at *; omega)) (by first | omega | (rw [List.size_toArray]; omega) | (simp only [List.size_toArray] at *; omega))) ⟨e, e2, ?_⟩
  refine ⟨.non, _, I.lset (its' := its ++ its2) hH e (by simp) (r.append r2) ?_, rfl, q⟩
  rw [List.length_append]
  omega
def lExt : List D → List D → Option (List D) := fun is ds => match ds with
  | [.list js] => if is.length + js.length ≤ sizeLine then some (is ++ js) else none
  | _ => none
theorem lm_extend : LM rExt2 lExt := by
  intro H O p xs vs is ds js Q hp rx rv _ hf q
  unfold lExt at hf
  split at hf
  · split at hf
    · rename_i hz
      cases hf
      cases rv with | cons a b =>
        cases b
        cases a with | lst h1 h2 h3 =>
          exact ⟨p, _, xs, _, rfl, rfl, hp, h2, by rw [← rx.length, ← h3.length]; exact hz, q _ (rx.append h3)⟩
    · cases hf
  · cases hf
theorem ds_extend {i : Nat} {recv arg : Expr} {apos cpos spos : Pos} (hx : mle M L.Mx = true) (hi : M[i]? = some .ow) (hr : PE X recv (tVar i)) (ha : DE X G M .pl arg m)
    (hbase : attributeBase recv "extend" X.env (eval recv X.env) = eval recv X.env := by rfl)
    (hfew : ((backTo cpos (starEach [arg] X.env)).all (fun x => !x.1) && (backToKw cpos (keywordEach [] X.env)).all (fun x => x.1.isSome)
      && decide ([arg].length + ([] : List Keyword).length + (if ([] : List Keyword).isEmpty then 0 else 1) < 30)) = true := by rfl)
    (hline : (apos.endLine == cpos.line) = true := by rfl) (hs : starEach [arg] X.env = [(false, eval arg X.env)] := by rfl)
    (hsw : swapsWith (.Call (.Attribute recv "extend" apos) [arg] [] cpos) none spos.line X.env = pure false := by rfl) :
    DS X G L M M (.Expr (.Call (.Attribute recv "extend" apos) [arg] [] cpos) spos) (oLM i lExt (aCons m aNil)) :=
  ds_lm hx hi lm_extend (da_cons ha da_nil hs) fun t h => ps_expr (pe_bm PySem.F.plainAttrs_list PySem.F.slot_list_extend PySem.F.type_list_extend mt_ext2 hr h hbase hfew hline hs) hsw
/-- target = xs.pop() -/
def oPop (i : Nat) (f : D → Env' → Option Env') : Env' → Out := fun env => match env[i]? with
  | some (some (.list is)) => match is[is.length - 1]? with
    | some d => match f d (env.set i (some (.list is.dropLast))) with
      | some e => .nx e
      | none => .err
    | none => .err
  | _ => .err
theorem RpA.dropLast {H : Hp} {O : AS} {ds : List D} {vs : List V} (r : RpA H O ds vs) : RpA H O ds.dropLast vs.dropLast := by
  rw [List.dropLast_eq_take, List.dropLast_eq_take, r.length]
  exact r.take _
theorem ds_pop {i : Nat} {recv tg : Expr} {apos cpos : Pos} (hx : mle M L.Mx = true) (hi : M[i]? = some .ow) (hr : PE X recv (tVar i)) (hg : DG X M M' ws tg f)
    (hbase : attributeBase recv "pop" X.env (eval recv X.env) = eval recv X.env := by rfl) (hline : (apos.endLine == cpos.line) = true := by rfl)
    (hs : swapsWithSole [tg] (.Call (.Attribute recv "pop" apos) [] [] cpos) pos.line X.env = pure false := by rfl) (hw : swappedStores [tg] (.Call (.Attribute recv "pop" apos) [] [] cpos) X.env = pure none := by rfl) (h1 : (assignEach [tg] X.env).map (·.2) = [assign tg X.env] := by rfl) :
    DS X G L M M' (.Assign [tg] (.Call (.Attribute recv "pop" apos) [] [] cpos) pos) (oPop i f) :=
  ps_imp (ps_asg (pe_bm0 PySem.F.plainAttrs_list PySem.F.slot_list_pop PySem.F.type_list_pop mt_pop hr hbase hline) hg hs hw h1) fun E σ H h => by
    obtain ⟨g, O, env, sr, q⟩ := tS_iff.mp h
    unfold oPop at q
    cases e1 : env[i]? with
    | none => rw [e1] at q; exact q.elim
    | some x =>
      cases x with
      | none => rw [e1] at q; exact q.elim
      | some x =>
        rw [e1] at q
        cases x with
        | list is =>
          obtain ⟨p, ev, op, np, rt⟩ := sr.ow i _ hi e1
          obtain ⟨xs, hp, rx⟩ := rt.list_inv
          simp only at q
          cases h2 : is[is.length - 1]? with
          | none => rw [h2] at q; exact q.elim
          | some d =>
            rw [h2] at q
            simp only at q
            have h2' : is[xs.length - 1]? = some d := by rw [← rx.length]; exact h2
            obtain ⟨v, hv, rv⟩ := rx.get h2'
            refine ⟨_, ev, tyV_list hp, p, xs, v, rfl, rfl, hp, hv, ?_⟩
            obtain ⟨sub, sr'⟩ := sr.write i hi e1 ev (o := .lst xs.dropLast) trivial (.lst upd_same (rx.dropLast.mono (Sub.upd op)))
            refine ⟨_, g, O, _, d, sr', rv.mono sub, ?_⟩
            cases h3 : f d (env.set i (some (.list is.dropLast))) with
            | none => rw [h3] at q; exact q
            | some e => rw [h3] at q; exact fun σ2 H2 O2 _ _ s2 sr2 _ => q σ2 H2 O2 (sub.trans s2) sr2
        | _ => exact q.elim
/-- xs[i] = e, xs an owned list -/
def oPut (i : Nat) (mi m : Env' → Res D) : Env' → Out := fun env => exOut (m env) env fun d => match env[i]? with
  | some (some (.list is)) => exOut (mi env) env fun j => match j with
    | .int j => match ixN is.length j with
      | some n => .nx (env.set i (some (.list (is.set n d))))
      | none => .err
    | _ => .err
  | _ => .err
theorem ds_put {i : Nat} {recv ix val : Expr} {p2 : Pos} {mi : Env' → Res D} (hx : mle M L.Mx = true) (hi : M[i]? = some .ow) (hr : PE X recv (tVar i)) (hix : DE X G M ka ix mi) (hv : DE X G M .pl val m)
    (hg : ∀ to ti, PE X recv to → PE X ix ti → PG X (.Subscript recv ix p2) (gSub to ti rSetL)) (hs : swapsWithSole [.Subscript recv ix p2] val pos.line X.env = pure false := by rfl) (hw : swappedStores [.Subscript recv ix p2] val X.env = pure none := by rfl)
    (h1 : (assignEach [.Subscript recv ix p2] X.env).map (·.2) = [assign (.Subscript recv ix p2) X.env] := by rfl) : DS X G L M M (.Assign [.Subscript recv ix p2] val pos) (oPut i mi m) :=
  ps_imp (ps_asg hv (hg _ _ hr hix.co) hs hw h1) fun E σ H h => by
    obtain ⟨g, O, env, sr, q⟩ := tS_iff.mp h
    refine tE_go sr hx q fun d q H' v s r => ?_
    cases e1 : env[i]? with
    | none => rw [e1] at q; exact q.elim
    | some x =>
      cases x with
      | none => rw [e1] at q; exact q.elim
      | some x =>
        rw [e1] at q
        cases x with
        | list is =>
          obtain ⟨p, ev, op, np, rt⟩ := sr.ow i _ hi e1
          obtain ⟨xs, hp, rx⟩ := rt.list_inv
          refine ⟨_, ev, tE_go (sr.grow s) hx (OutOk.sub (Sub.same s O) q) fun j q H2 w s2 rw2 => ?_⟩
          cases j with
          | int j =>
            simp only at q
            cases rw2.int_inv
            cases h2 : ixN is.length j with
            | none => rw [h2] at q; exact q.elim
            | some n =>
              rw [h2] at q
              have h2' := h2
              rw [rx.length] at h2'
              have ss := s.trans s2
              refine ⟨p, xs, j, n, rfl, rfl, ss _ _ hp, h2', ?_⟩
              obtain ⟨sub, sr'⟩ := (sr.grow ss).write i hi e1 ev (o := .lst (xs.set n v)) trivial (.lst upd_same (((rx.mono (Sub.same ss O)).set (r.mono (Sub.same s2 O)) n).mono (Sub.upd op)))
              exact q σ _ O ((Sub.same s2 O).trans sub) sr'
          | _ => exact q.elim
        | _ => exact q.elim
end
end DL

namespace DL
open PySem PySem.Spec L2
/-! ### what is walked -/
def ItOk (J : It) (ds : List D) (O : AS) (H1 : Hp) : Prop := ∀ (H : Hp) (O' : AS) (i : Nat), Sub H1 O H O' → Trk H O' →
  (i < ds.length → J.go i H ∧ ∀ x H', J.yld i H x H' → Same H H' ∧ ∃ d, ds[i]? = some d ∧ Rp H' O' d x) ∧ (ds.length ≤ i → J.stop i H)
def tI (G : Gd) (M : List Md) (mi : Env' → Res (List D)) : TI := fun σ H R => ∃ (g : Gr G.ex) (O : AS) (env : Env'), SR g.H0 g.O0 M O env σ H ∧ match mi env with
  | .ok ds => ∀ J H1, Same H H1 → ItOk J ds O H1 → R J H1
  | .exc c d => XW G O σ H c d
  | .err => False
def DI (X : Cx) (G : Gd) (M : List Md) (tg iter : Expr) (mi : Env' → Res (List D)) : Prop := PI X tg iter (tI G M mi)
section
variable {X : Cx} {G : Gd} {L : Lp} {M M' Mt : List Md} {k ka kb : Kd} {a b e tg iter : Expr} {m ma mb : Env' → Res D} {ms mi : Env' → Res (List D)} {nc : Env' → Res Bool} {pos : Pos} {st : Stmt} {sts body : List Stmt} {o o1 o2 : Env' → Out} {f : D → Env' → Option Env'} {ws : List Nat}
theorem pi_imp {t t' : TI} (h : PI X tg iter t) (i : ∀ σ H R, t' σ H R → t σ H R) : PI X tg iter t' := ⟨fun pins s σ H R I q => h.run pins s σ H R I (i σ H R q)⟩
theorem PI.or {t t' : TI} (h : PI X tg iter t) (h' : PI X tg iter t') : PI X tg iter (fun σ H R => t σ H R ∨ t' σ H R) := ⟨fun pins s σ H R I q => q.elim (h.run pins s σ H R I) (h'.run pins s σ H R I)⟩
/-- what is walked over data: lists, tuples, texts -/
def walkD : D → Res (List D)
  | .list ds => .ok ds
  | .tuple ds => .ok ds
  | .str x => .ok (x.cps.toList.map fun c => .str ⟨#[c]⟩)
  | _ => .err
def iSeq (m : Env' → Res D) : Env' → Res (List D) := fun env => (m env).bind walkD
theorem itOk_list {K : PySem.W.Frag} {H1 : Hp} {O : AS} {p : Addr} {xs : List V} {ds : List D} (ho : ¬ O p) (e : L2.Rd H1 p (.lst xs)) (r : RpA H1 O ds xs) : ItOk (Itl K p) ds O H1 := fun H O' i s tr => by
  obtain ⟨e', ho'⟩ := s.1 p _ ho e
  have r' := r.mono s
  refine ⟨fun hi => ?_, fun hi => ⟨xs, Rd.seqL e', by rw [← r.length]; exact hi⟩⟩
  obtain ⟨v, hv, rv⟩ := r'.get (List.getElem?_eq_getElem hi)
  refine ⟨⟨xs, v, Rd.seqL e', hv⟩, fun x H' y => ?_⟩
  obtain ⟨rfl, y⟩ := y
  have := y xs (Rd.seqL e')
  rw [hv] at this
  cases this
  exact ⟨Same.refl _, _, List.getElem?_eq_getElem hi, rv⟩
theorem itOk_tup {K : PySem.W.Frag} {H1 : Hp} {O : AS} {p : Addr} {xs : List V} {ds : List D} (ho : ¬ O p) (e : L2.Rd H1 p (.tup xs)) (r : RpA H1 O ds xs) : ItOk (Itt K p) ds O H1 := fun H O' i s tr => by
  obtain ⟨e', ho'⟩ := s.1 p _ ho e
  have r' := r.mono s
  refine ⟨fun hi => ?_, fun hi => ⟨xs, Rd.seqT e', by rw [← r.length]; exact hi⟩⟩
  obtain ⟨v, hv, rv⟩ := r'.get (List.getElem?_eq_getElem hi)
  refine ⟨⟨xs, v, Rd.seqT e', hv⟩, fun x H' y => ?_⟩
  obtain ⟨rfl, y⟩ := y
  have := y xs (Rd.seqT e')
  rw [hv] at this
  cases this
  exact ⟨Same.refl _, _, List.getElem?_eq_getElem hi, rv⟩
theorem itOk_str {H1 : Hp} {O : AS} {x : Str} : ItOk (Its x) (x.cps.toList.map fun c => .str ⟨#[c]⟩) O H1 := fun H O' i s tr => by
  refine ⟨fun hi => ?_, fun hi => by simpa [Its] using hi⟩
  have hi' : i < x.cps.size := by simpa using hi
  refine ⟨hi', fun y H' ⟨e, c, hc, hy⟩ => ?_⟩
  subst e hy
  refine ⟨Same.refl _, .str ⟨#[c]⟩, ?_, .str _⟩
  simp [← hc]
theorem itOk_range {H1 : Hp} {O : AS} {lo : Int} {n : Nat} : ItOk (Itr lo n) ((List.range n).map fun (i : Nat) => PyData.int (lo + i)) O H1 := fun H O' i s tr => by
  refine ⟨fun hi => ?_, fun hi => by simpa [Itr] using hi⟩
  have hi' : i < n := by simpa using hi
  refine ⟨hi', fun y H' ⟨e, hy⟩ => ?_⟩
  subst e hy
  exact ⟨Same.refl _, .int (lo + i), by simp [hi'], .int _⟩
theorem di_seq (he : DE X G M .pl e m) : DI X G M tg e (iSeq m) := pi_imp (PI.or (pi_list he) (PI.or (pi_tup he) (pi_str he))) fun σ H R ⟨g, O, env, sr, q⟩ => by
  have key : ∀ (T : TE → TI) (_ : T = iList X.K ∨ T = iTup X.K ∨ T = iStr), True := fun _ _ => trivial
  unfold iSeq at q
  cases h : m env with
  | err => rw [h] at q; exact q.elim
  | exc c d =>
    rw [h] at q
    refine .inl ⟨g, O, env, sr, ?_⟩
    rw [h]; exact q
  | ok d =>
    rw [h, Res.bind_ok] at q
    cases d <;> simp only [walkD] at q
    case list ds =>
      refine .inl ⟨g, O, env, sr, ?_⟩
      rw [h]
      intro H1 v s r
      have r : Rp H1 O (.list ds) v := r
      cases r with
      | lst h1 h2 h3 => exact ⟨_, rfl, ⟨_, Rd.seqL h2⟩, q _ _ s (itOk_list h1 h2 h3)⟩
    case tuple ds =>
      refine .inr (.inl ⟨g, O, env, sr, ?_⟩)
      rw [h]
      intro H1 v s r
      have r : Rp H1 O (.tuple ds) v := r
      cases r with
      | tup h1 h2 h3 => exact ⟨_, rfl, ⟨_, Rd.seqT h2⟩, q _ _ s (itOk_tup h1 h2 h3)⟩
    case str x =>
      refine .inr (.inr ⟨g, O, env, sr, ?_⟩)
      rw [h]
      intro H1 v s r
      have r : Rp H1 O (.str x) v := r
      cases r
      exact ⟨_, rfl, q _ _ s itOk_str⟩
def small62 (i : Int) : Prop := -(2 ^ 62) ≤ i ∧ i < 2 ^ 62
instance (i : Int) : Decidable (small62 i) := by unfold small62; exact inferInstance
def rng (lo : Int) (n : Nat) : List D := (List.range n).map fun (i : Nat) => PyData.int (lo + i)
def rangeD : List D → Res (List D)
  | [.int j] => if small62 j then .ok (rng 0 j.toNat) else .err
  | [.int i, .int j] => if small62 i ∧ small62 j then .ok (rng i (j - i).toNat) else .err
  | _ => .err
def iRange (ms : Env' → Res (List D)) : Env' → Res (List D) := fun env => (ms env).bind rangeD
theorem di_range1 {p : Pos} (hg : Gl X "range") (hm : X.mg "range" = none) (ha : DE X G M k a m) (hs : starEach [a] X.env = [(false, eval a X.env)] := by rfl) : DI X G M tg (.Call (.Name "range" p) [a] [] pos) (iRange (aCons m aNil)) :=
  pi_imp (pi_range1 hg hm (da_consC (G := G) (M := M) ha da_nil hs) hs) fun σ H R ⟨g, O, env, sr, q⟩ => by
    refine ⟨g, O, env, sr, ?_⟩
    unfold iRange at q
    cases h : aCons m aNil env with
    | err => rw [h] at q; exact q
    | exc c d => rw [h] at q; exact q
    | ok ds =>
      rw [h, Res.bind_ok] at q
      have hl : ∃ d, ds = [d] := by
        unfold aCons aNil at h
        cases h2 : m env with
        | ok d => rw [h2] at h; cases h; exact ⟨d, rfl⟩
        | exc c d => rw [h2] at h; cases h
        | err => rw [h2] at h; cases h
      obtain ⟨d, rfl⟩ := hl
      intro H1 vs s r
      obtain ⟨v, rfl, r1⟩ := RcA.one r
      cases d <;> simp only [rangeD] at q
      case int j =>
        cases r1.int_inv
        by_cases hj : small62 j
        · rw [if_pos hj] at q
          exact ⟨j, rfl, hj.1, hj.2, q _ _ s (by have := @itOk_range H1 O 0 j.toNat; exact this)⟩
        · rw [if_neg hj] at q; exact q.elim
      all_goals exact q.elim
theorem di_range2 {p : Pos} (hg : Gl X "range") (hm : X.mg "range" = none) (ha : DE X G M ka a ma) (hb : DE X G M kb b mb) (hs : starEach [a, b] X.env = [(false, eval a X.env), (false, eval b X.env)] := by rfl) (hs2 : starEach [b] X.env = [(false, eval b X.env)] := by rfl) : DI X G M tg (.Call (.Name "range" p) [a, b] [] pos) (iRange (aCons ma (aCons mb aNil))) :=
  pi_imp (pi_range2 hg hm (da_consC (G := G) (M := M) ha (da_consC hb da_nil hs2) (by rw [hs, hs2])) hs hs2) fun σ H R ⟨g, O, env, sr, q⟩ => by
    refine ⟨g, O, env, sr, ?_⟩
    unfold iRange at q
    cases h : aCons ma (aCons mb aNil) env with
    | err => rw [h] at q; exact q
    | exc c d => rw [h] at q; exact q
    | ok ds =>
      rw [h, Res.bind_ok] at q
      have hl : ∃ d d2, ds = [d, d2] := by
        unfold aCons aNil at h
        cases h2 : ma env with
        | ok d =>
          cases h3 : mb env with
          | ok d2 => rw [h2, h3] at h; cases h; exact ⟨d, d2, rfl⟩
          | exc c d => rw [h2, h3] at h; cases h
          | err => rw [h2, h3] at h; cases h
        | exc c d => rw [h2] at h; cases h
        | err => rw [h2] at h; cases h
      obtain ⟨d, d2, rfl⟩ := hl
      intro H1 vs s r
      obtain ⟨v, w, rfl, r1, r2⟩ := RcA.two r
      cases d <;> try exact q.elim
      cases d2 <;> try exact q.elim
      case int.int i j =>
        cases r1.int_inv; cases r2.int_inv
        simp only [rangeD] at q
        by_cases hj : small62 i ∧ small62 j
        · rw [if_pos hj] at q
          exact ⟨i, j, rfl, ⟨hj.1.1, hj.1.2, hj.2.1, hj.2.2⟩, q _ _ s itOk_range⟩
        · rw [if_neg hj] at q; exact q.elim

/-! ### for -/
def loop (f : D → Env' → Option Env') (body : Env' → Out) : List D → Env' → Out
  | [], env => .nx env
  | d :: ds, env => match f d env with
    | none => .err
    | some e1 => match body e1 with
      | .nx e2 => loop f body ds e2
      | .ct e2 => loop f body ds e2
      | .bk e2 => .nx e2
      | x => x
def oFor (mi : Env' → Res (List D)) (f : D → Env' → Option Env') (body : Env' → Out) : Env' → Out := fun env => exOut (mi env) env fun ds => loop f body ds env
theorem ds_for (hx : mle M L.Mx = true) (hp : PassesOwn (model X.prog X.w) X.A X.env X.xe) (hc : X.calm = true) (hi : DI X G M tg iter mi) (hg : DG X M Mt ws tg f) (hb : DSs X G { L with Mb := M } Mt M body o) (hs : ∀ x, foldedSetIterable iter X.env x = pure x := by intro _; rfl) :
    DS X G L M M (.For tg iter body [] pos) (oFor mi f o) := ps_imp (ps_for hp hc hi hg hb hs) fun E σ H h => by
  obtain ⟨g, O, env, sr, q⟩ := tS_iff.mp h
  refine ⟨g, O, env, sr, ?_⟩
  unfold oFor at q
  cases h : mi env with
  | err => rw [h] at q; exact q
  | exc c d =>
    rw [h] at q
    exact fun H' dd cls va s h1 h2 h3 => q σ H' O dd cls va (Sub.same s O) ((sr.grow s).weak hx) h1 h2 h3
  | ok ds =>
    rw [h, exOut_ok] at q
    intro J H1 s it
    refine ⟨fun i n σ' H' => n = ds.length - i ∧ i ≤ ds.length ∧ ∃ O' env', Sub H1 O H' O' ∧ SR g.H0 g.O0 M O' env' σ' H' ∧ OutOk G L M g O' H' E (loop f o (ds.drop i) env'),
      ⟨_, rfl, Nat.zero_le _, O, env, Sub.refl _ _, sr.grow s, OutOk.sub (Sub.same s O) q⟩, ?_⟩
    rintro i n σ2 H2 ⟨rfl, hi, O2, env2, sub2, sr2, q2⟩
    obtain ⟨go, stop⟩ := it H2 O2 i sub2 sr2.tr
    by_cases hlt : i < ds.length
    · obtain ⟨go, yld⟩ := go hlt
      refine .inr ⟨go, fun σ' H' => ∃ O' env', Sub H1 O H' O' ∧ SR g.H0 g.O0 M O' env' σ' H' ∧ OutOk G L M g O' H' E (loop f o (ds.drop (i + 1)) env'),
        fun σ' H' z => ⟨ds.length - (i + 1), by omega, rfl, hlt, z⟩, fun x H3 y => ?_⟩
      obtain ⟨s3, d, hd, rd⟩ := yld x H3 y
      refine ⟨_, g, O2, env2, d, sr2.grow s3, rd, ?_⟩
      rw [List.drop_eq_getElem_cons hlt] at q2
      have hd' : ds[i] = d := by
        rw [List.getElem?_eq_getElem hlt] at hd
        exact Option.some.inj hd
      rw [hd'] at q2
      unfold loop at q2
      cases hf : f d env2 with
      | none => rw [hf] at q2; exact q2
      | some e1 =>
        rw [hf] at q2
        simp only at q2 ⊢
        intro σ4 H4 O4 _ _ s4 sr4 _
        have sub4 : Sub H1 O H4 O4 := (sub2.trans (Sub.same s3 O2)).trans s4
        refine tS_iff.mpr ⟨g, O4, e1, sr4, ?_⟩
        have q3 := OutOk.sub ((Sub.same s3 O2).trans s4) q2
        cases ho : o e1 with
        | nx e2 =>
          rw [ho] at q3
          exact fun σ5 H5 O5 s5 sr5 => ⟨O5, e2, sub4.trans s5, sr5, OutOk.sub s5 q3⟩
        | ct e2 =>
          rw [ho] at q3
          exact fun σ5 H5 O5 s5 sr5 => ⟨O5, e2, sub4.trans s5, sr5, OutOk.sub s5 q3⟩
        | bk e2 =>
          rw [ho] at q3
          exact fun σ5 H5 O5 s5 sr5 => q3 σ5 H5 O5 s5 sr5
        | rt d => rw [ho] at q3; exact q3
        | exc c d e => rw [ho] at q3; exact q3
        | err => rw [ho] at q3; exact q3
    · have hl : i = ds.length := by omega
      subst hl
      refine .inl ⟨stop (Nat.le_refl _), ?_⟩
      rw [List.drop_length] at q2
      exact q2 σ2 H2 O2 (Sub.refl _ _) sr2

/-! ### while -/
def wloop (nc : Env' → Res Bool) (body : Env' → Out) : Nat → Env' → Out
  | 0, _ => .err
  | n + 1, env => exOut (nc env) env fun b => if b = true then
      match body env with
      | .nx e => wloop nc body n e
      | .ct e => wloop nc body n e
      | .bk e => .nx e
      | x => x
    else .nx env
theorem ds_while {c : Expr} (n : Nat) (hx : mle M L.Mx = true) (hp : PassesOwn (model X.prog X.w) X.A X.env X.xe) (hc : DT X G M c nc) (hb : DSs X G { L with Mb := M } M M body o) : DS X G L M M (.While c body [] pos) (wloop nc o n) := ps_imp (ps_while hp hc hb) fun E σ H h => by
  obtain ⟨g, O, env, sr, q⟩ := tS_iff.mp h
  refine ⟨fun m σ' H' => ∃ O' env', SR g.H0 g.O0 M O' env' σ' H' ∧ OutOk G L M g O' H' E (wloop nc o m env'), ⟨n, O, env, sr, q⟩, ?_⟩
  rintro m σ2 H2 ⟨O2, env2, sr2, q2⟩
  cases m with
  | zero => exact q2.elim
  | succ m =>
    unfold wloop at q2
    refine tT_go sr2 hx q2 fun b q2 H3 s => ?_
    cases b with
    | false =>
      rw [if_neg Bool.false_ne_true] at q2 ⊢
      exact q2 σ2 H3 O2 (Sub.same s O2) (sr2.grow s)
    | true =>
      rw [if_pos rfl] at q2 ⊢
      refine ⟨fun σ' H' => ∃ O' env', SR g.H0 g.O0 M O' env' σ' H' ∧ OutOk G L M g O' H' E (wloop nc o m env'), fun σ' H' z => ⟨m, Nat.lt_succ_self _, z⟩, tS_iff.mpr ⟨g, O2, env2, sr2.grow s, ?_⟩⟩
      have q3 := OutOk.sub (Sub.same s O2) q2
      cases ho : o env2 with
      | nx e2 => rw [ho] at q3; exact fun σ5 H5 O5 s5 sr5 => ⟨O5, e2, sr5, OutOk.sub s5 q3⟩
      | ct e2 => rw [ho] at q3; exact fun σ5 H5 O5 s5 sr5 => ⟨O5, e2, sr5, OutOk.sub s5 q3⟩
      | bk e2 => rw [ho] at q3; exact fun σ5 H5 O5 s5 sr5 => q3 σ5 H5 O5 s5 sr5
      | rt d => rw [ho] at q3; exact q3
      | exc c d e => rw [ho] at q3; exact q3
      | err => rw [ho] at q3; exact q3

/-! ### calls of defs -/
def spD (kr : Kd) (mg : Str → Option Value) (np : Nat) (mf : List D → Res D) : Sp := fun vs H Q E => vs.length = np ∧ ∃ (O : AS) (ds : List D), Trk H O ∧ RpA H O ds vs ∧ match mf ds with
  | .ok d => ∀ H' v, Same H H' → RK kr H O H' d v → Q v H'
  | .exc c d => ∀ H' dd cls va, Same H H' → mg c = some cls → H' dd = some (.xd [(("at" : Str), va)]) → Rp H' O d va → E cls (some dd) H'
  | .err => False
def mCall (mf : List D → Res D) (ms : Env' → Res (List D)) : Env' → Res D := fun env => (ms env).bind mf
theorem aLen_cons {env : Env'} {ds : List D} (h : aCons m ms env = .ok ds) : ∃ d r, ds = d :: r ∧ ms env = .ok r := by
  unfold aCons at h
  cases h1 : m env with
  | ok d =>
    cases h2 : ms env with
    | ok r => rw [h1, h2] at h; cases h; exact ⟨d, r, rfl, rfl⟩
    | exc c d => rw [h1, h2] at h; cases h
    | err => rw [h1, h2] at h; cases h
  | exc c d => rw [h1] at h; cases h
  | err => rw [h1] at h; cases h
theorem de_call {kr : Kd} {lv : Nat} {fa : Addr} {fd : FuncData} {ps : List Str} {np : Nat} {mf : List D → Res D} {x : Str} {p : Pos} {es : List Expr} (F : FnOk X.prog X.w X.K X.mg X.base (L2.CX X.prog X.w) lv fa fd ps (spD kr G.mg np mf)) (hr : Room lv X.A) (hg : Gl X x) (hm : X.mg x = some (.ref fa)) (hk : PySem.W.keepIn X.K (.ref fa) = true) (hb : Binds X.K fd ps [])
    (tk : Takes X G.W) (ha : DA X G M .pl (e :: es) ms) (hl : ∀ env ds, ms env = .ok ds → ds.length = np) (hdb : (x == ("__debug__" : Str)) = false := by decide) (he : starEach (e :: es) X.env = (false, eval e X.env) :: starEach es X.env := by rfl) (hpl : (backTo pos (starEach es X.env)).any (·.1) = false := by rfl) :
    DE X G M kr (.Call (.Name x p) (e :: es) [] pos) (mCall mf ms) := pe_imp (pe_callS F hr hg hm hk hb (fun σ => passAt tk σ) ha hdb he hpl) fun σ H Q ⟨g, O, env, sr, q⟩ => by
  refine ⟨g, O, env, sr, ?_⟩
  unfold mCall at q
  cases h : ms env with
  | err => rw [h] at q; exact q
  | exc c d => rw [h] at q; exact q
  | ok ds =>
    rw [h, Res.bind_ok] at q
    intro H1 vs s r
    have r : RpA H1 O ds vs := r
    refine ⟨by rw [← r.length]; exact hl env ds h, O, ds, Trk.grow sr.tr s, r, ?_⟩
    cases h2 : mf ds with
    | err => rw [h2] at q; exact q
    | exc c d =>
      rw [h2] at q
      exact fun H' dd cls va s' h1 h2 h3 => q H' dd cls va (s.trans s') h1 h2 h3
    | ok d =>
      rw [h2] at q
      exact fun H' v s' r' => q H' v (s.trans s') (RK.back s r')
end
end DL

namespace DL
open PySem PySem.Spec L2
/-! ### a def by its body -/
def runD (kr : Kd) (n : Nat) (o : Env' → Out) (ds : List D) : Res D := match o (ds.map some ++ List.replicate (n - ds.length) none) with
  | .nx _ => match kr with
    | .pl => .ok .none
    | _ => .err
  | .rt d => .ok d
  | .exc c d _ => .exc c d
  | _ => .err
def wE (E : XK) : WX := fun cls d _ H => E cls d H
section
variable {P : Program} {w : World} {K : PySem.W.Frag} {mg : Str → Option Value} {base : Heap}
theorem tkX {N : List Str} {qual : Str} {sc : Scope} {f : Addr} {cdv : Value} {A : Around} {outer : List Env} {s : Shared} {H : Hp} {E : XK} : Takes (cxOf (L2.CX P w) P w K mg base N qual sc f cdv A outer s H E) (wE E) := takes_of rfl rfl rfl rfl
theorem poX {N : List Str} {qual : Str} {sc : Scope} {f : Addr} {cdv : Value} {A : Around} {outer : List Env} {s : Shared} {H : Hp} {E : XK} : PassesOwn (model P w) (cxOf (L2.CX P w) P w K mg base N qual sc f cdv A outer s H E).A (cxOf (L2.CX P w) P w K mg base N qual sc f cdv A outer s H E).env (cxOf (L2.CX P w) P w K mg base N qual sc f cdv A outer s H E).xe := passes_of rfl
def mode0 (n np : Nat) : List Md := List.replicate np .fz ++ List.replicate (n - np) .un
theorem start_ok {N : List Str} {np : Nat} {kr : Kd} {M1 : List Md} {o : Env' → Out} {vs : List V} {H : Hp} {Q : VK} {E : XK} {O : AS} {ds : List D} (hl : vs.length = np) (tr : Trk H O) (r : RpA H O ds vs) (q : match runD kr N.length o ds with
  | .ok d => ∀ H' v, Same H H' → RK kr H O H' d v → Q v H'
  | .exc c d => ∀ H' dd cls va, Same H H' → mg c = some cls → H' dd = some (.xd [(("at" : Str), va)]) → Rp H' O d va → E cls (some dd) H'
  | .err => False) : tS ⟨wE E, mg, none⟩ ⟨[], [], kr⟩ (mode0 N.length np) M1 o { nx := fun _ H' => Q .non H', rt := Q } (L2.start N vs) H := by
  have hld : ds.length = np := by rw [r.length]; exact hl
  refine tS_iff.mpr ⟨⟨H, O, fun _ h => nomatch h⟩, O, ds.map some ++ List.replicate (N.length - ds.length) none, ⟨Same.refl H, fun _ h => h, tr, fun _ h => .inl h, ?_, ?_, ?_, ?_, ?_⟩, ?_⟩
  · unfold L2.start
    simp [hld, hl]
  · intro i d hm he
    by_cases hi : i < ds.length
    · rw [List.getElem?_append_left (by simpa using hi)] at he
      rw [List.getElem?_map] at he
      cases hd : ds[i]? with
      | none => rw [hd] at he; cases he
      | some d' =>
        rw [hd] at he
        cases he
        obtain ⟨v, hv, rv⟩ := r.get hd
        refine ⟨v, ?_, rv⟩
        unfold L2.start
        rw [List.getElem?_append_left (by simpa [← r.length] using hi), List.getElem?_map, hv]
        rfl
    · rw [List.getElem?_append_right (by simpa using hi)] at he
      obtain ⟨_, e⟩ := List.getElem?_eq_some_iff.mp he
      rw [List.getElem_replicate] at e
      cases e
  · intro i d hm he
    unfold mode0 at hm
    by_cases hi : i < np
    · rw [List.getElem?_append_left (by simpa using hi)] at hm
      obtain ⟨_, e⟩ := List.getElem?_eq_some_iff.mp hm
      rw [List.getElem_replicate] at e
      cases e
    · rw [List.getElem?_append_right (by simpa using hi)] at hm
      obtain ⟨_, e⟩ := List.getElem?_eq_some_iff.mp hm
      rw [List.getElem_replicate] at e
      cases e
  · intro i j d e a hm
    unfold mode0 at hm
    by_cases hi : i < np
    · rw [List.getElem?_append_left (by simpa using hi)] at hm
      obtain ⟨_, e⟩ := List.getElem?_eq_some_iff.mp hm
      rw [List.getElem_replicate] at e
      cases e
    · rw [List.getElem?_append_right (by simpa using hi)] at hm
      obtain ⟨_, e⟩ := List.getElem?_eq_some_iff.mp hm
      rw [List.getElem_replicate] at e
      cases e
  · intro i a hm
    unfold mode0 at hm
    by_cases hi : i < np
    · rw [List.getElem?_append_left (by simpa using hi)] at hm
      obtain ⟨_, e⟩ := List.getElem?_eq_some_iff.mp hm
      rw [List.getElem_replicate] at e
      cases e
    · rw [List.getElem?_append_right (by simpa using hi)] at hm
      obtain ⟨_, e⟩ := List.getElem?_eq_some_iff.mp hm
      rw [List.getElem_replicate] at e
      cases e
  · unfold runD at q
    cases ho : o (ds.map some ++ List.replicate (N.length - ds.length) none) with
    | nx e =>
      rw [ho] at q
      cases kr with
      | pl => exact fun σ' H' O' s sr => q H' _ sr.same .non
      | co => exact q.elim
      | fr => exact q.elim
    | rt d => rw [ho] at q; exact q
    | exc c d e =>
      rw [ho] at q
      exact fun σ' H' O' dd cls va s sr h1 h2 h3 => q H' dd cls va sr.same h1 h2 (h3.mono (Sub.less sr.sub0))
    | bk e => rw [ho] at q; exact q.elim
    | ct e => rw [ho] at q; exact q.elim
    | err => rw [ho] at q; exact q.elim
theorem Fun.okD {x qual : Str} {st : Stmt} {f : Addr} {fd : FuncData} {N ps : List Str} {k : Nat} {kr : Kd} {M1 : List Md} {o : Env' → Out} (F : Fun K x qual st f fd) (S : FnScope N ps (defScope st)) (hN : ps.length ≤ N.length)
    (hbody : ∀ (cdv : Value) (A : Around) (outer : List Env) (s : Shared) (H : Hp) (E : XK), Room k (A.deeper (PyProof.Rows.envOfC qual (defScope st) s.heap.objs.size f cdv)) →
      DSs (cxOf (L2.CX P w) P w K mg base N qual (defScope st) f cdv A outer s H E) ⟨wE E, mg, none⟩ ⟨[], [], kr⟩ (mode0 N.length ps.length) M1 (defBody st) o) :
    FnOk P w K mg base (L2.CX P w) (k + 1) f fd ps (spD kr mg ps.length (runD kr N.length o)) := by
  refine F.okX S (fun vs H Q E h => h.1) fun cdv A outer s H vs Q E hr h => ?_
  refine ⟨_, hbody cdv A outer s H E hr, ?_⟩
  obtain ⟨hl, O, ds, tr, r, q⟩ := h
  exact start_ok hl tr r q
end
end DL

namespace DL
open PySem PySem.Spec L2
/-! ### list comprehensions -/
def wipeE : Env' → List Nat → Env'
  | env, [] => env
  | env, v :: vs => (wipeE env vs).set v none
def wipeM : List Md → List Nat → List Md
  | M, [] => M
  | M, v :: vs => (wipeM M vs).set v .un
theorem wipeE_get {i : Nat} {d : D} : ∀ {env : Env'} {vs : List Nat}, (wipeE env vs)[i]? = some (some d) → env[i]? = some (some d) ∧ i ∉ vs
  | env, [], h => ⟨h, by simp⟩
  | env, v :: vs, h => by
    unfold wipeE at h
    by_cases hi : v = i
    · subst hi
      obtain ⟨hlt, _⟩ := List.getElem?_eq_some_iff.mp h
      rw [List.getElem?_set_self (by simpa using hlt)] at h; cases h
    · rw [List.getElem?_set_ne hi] at h
      obtain ⟨h1, h2⟩ := wipeE_get h
      exact ⟨h1, by simp only [List.mem_cons, not_or]; exact ⟨fun e => hi e.symm, h2⟩⟩
theorem wipeM_get {i : Nat} {md : Md} (hu : md ≠ .un) : ∀ {M : List Md} {vs : List Nat}, (wipeM M vs)[i]? = some md → M[i]? = some md
  | M, [], h => h
  | M, v :: vs, h => by
    unfold wipeM at h
    by_cases hi : v = i
    · subst hi
      obtain ⟨hlt, _⟩ := List.getElem?_eq_some_iff.mp h
      rw [List.getElem?_set_self (by simpa using hlt)] at h
      cases h
      exact absurd rfl hu
    · rw [List.getElem?_set_ne hi] at h
      exact wipeM_get hu h
theorem wipeM_un {i : Nat} {md : Md} : ∀ {M : List Md} {vs : List Nat}, i ∈ vs → md ≠ .un → ¬ (wipeM M vs)[i]? = some md
  | M, [], h, _, _ => nomatch h
  | M, v :: vs, h, hu, e => by
    unfold wipeM at e
    by_cases hi : v = i
    · subst hi
      obtain ⟨hlt, _⟩ := List.getElem?_eq_some_iff.mp e
      rw [List.getElem?_set_self (by simpa using hlt)] at e
      cases e
      exact hu rfl
    · rw [List.getElem?_set_ne hi] at e
      rcases List.mem_cons.mp h with z | z
      · exact hi z.symm
      · exact wipeM_un z hu e
theorem wipeE_length : ∀ (env : Env') (vs : List Nat), (wipeE env vs).length = env.length
  | env, [] => rfl
  | env, v :: vs => by unfold wipeE; rw [List.length_set, wipeE_length env vs]
theorem wipe_keep {σ : L2.St} {i : Nat} : ∀ {vs : List Nat}, i ∉ vs → (wipe σ vs)[i]? = σ[i]?
  | [], _ => rfl
  | v :: vs, h => by
    unfold wipe
    simp only [List.mem_cons, not_or] at h
    rw [List.getElem?_set_ne (fun e => h.1 e.symm)]
    exact wipe_keep h.2
theorem wipe_only {vs ws : List Nat} {σ σ' : L2.St} (h : Only' ws σ σ') (hs : ∀ i ∈ ws, i ∈ vs) : wipe σ' vs = wipe σ vs := by
  apply List.ext_getElem?
  intro i
  by_cases hi : i ∈ vs
  · have key : ∀ (τ : L2.St), τ.length = σ.length → (wipe τ vs)[i]? = if i < σ.length then some none else none := by
      intro τ hτ
      rw [← hτ]
      clear h hs hτ
      induction vs with
      | nil => cases hi
      | cons v vs ih =>
        unfold wipe
        by_cases e : v = i
        · subst e
          by_cases hl : v < τ.length
          · rw [if_pos hl, List.getElem?_set_self (by rw [wipe_length]; exact hl)]
          · rw [if_neg hl, List.getElem?_eq_none (by rw [List.length_set, wipe_length]; omega)]
        · rw [List.getElem?_set_ne e]
          rcases List.mem_cons.mp hi with z | z
          · exact absurd z.symm e
          · exact ih z
    rw [key σ' h.1, key σ rfl]
  · rw [wipe_keep hi, wipe_keep hi]
    exact h.2 i fun z => hi (hs i z)
theorem wipe_idem {vs : List Nat} {σ : L2.St} : wipe (wipe σ vs) vs = wipe σ vs := by
  refine wipe_only (ws := vs) ⟨wipe_length _ _, fun i hi => wipe_keep hi⟩ fun _ h => h
/-- the frame's state within a block, the new list at p -/
theorem SR.blk {H0 H H' : Hp} {O0 O : AS} {M : List Md} {env : Env'} {σ : L2.St} {p : Addr} {xs : List V} (vs : List Nat) (r : SR H0 O0 M O env σ H) (s : Same H H') (hp : H p = none) (hp' : H' p = some (.lst xs)) :
    SR H0 O0 (wipeM M vs) (fun b => O b ∨ b = p) (wipeE env vs) (wipe σ vs) H' where
  same := r.same.trans s
  sub0 := fun a h => .inl (r.sub0 a h)
  tr := fun a h => by
    rcases h with h | rfl
    · exact Trk.grow r.tr s a h
    · exact ⟨_, hp', trivial⟩
  new := fun a h => by
    rcases h with h | rfl
    · exact r.new a h
    · exact .inr (r.same.free hp)
  len := by rw [wipeE_length, wipe_length]; exact r.len
  fz := fun i d hm he => by
    obtain ⟨he', hi⟩ := wipeE_get he
    obtain ⟨v, ev, q⟩ := r.fz i d (wipeM_get (by simp) hm) he'
    exact ⟨v, by rw [wipe_keep hi]; exact ev, q.mono ((Sub.more hp).trans (Sub.same s _))⟩
  ow := fun i d hm he => by
    obtain ⟨he', hi⟩ := wipeE_get he
    obtain ⟨a, ev, oa, na, q⟩ := r.ow i d (wipeM_get (by simp) hm) he'
    exact ⟨a, by rw [wipe_keep hi]; exact ev, .inl oa, na, q.same s ((Sub.more hp).trans (Sub.same s _))⟩
  dist := fun i j d e a h1 h2 h3 h4 h5 h6 => by
    obtain ⟨h3', hi⟩ := wipeE_get h3
    obtain ⟨h4', hj⟩ := wipeE_get h4
    rw [wipe_keep hi] at h5
    rw [wipe_keep hj] at h6
    exact r.dist i j d e a (wipeM_get (by simp) h1) (wipeM_get (by simp) h2) h3' h4' h5 h6
  exs := fun i a hm => by
    have hi : i ∉ vs := fun z => wipeM_un z (by simp) hm
    rw [wipe_keep hi]
    exact r.exs i a (wipeM_get (by simp) hm)
def noX {α : Type} : Res α → Res α
  | .ok a => .ok a
  | _ => .err
/-- walked while all that is tracked stands -/
def ItOkS (J : It) (ds : List D) (O : AS) (H1 : Hp) : Prop := ∀ (H : Hp) (O' : AS) (i : Nat), Same H1 H → Sub H1 O H O' → Trk H O' →
  (i < ds.length → J.go i H ∧ ∀ x H', J.yld i H x H' → Same H H' ∧ ∃ d, ds[i]? = some d ∧ Rp H' O' d x) ∧ (ds.length ≤ i → J.stop i H)
def tIS (G : Gd) (M : List Md) (mi : Env' → Res (List D)) : TI := fun σ H R => ∃ (g : Gr G.ex) (O : AS) (env : Env'), SR g.H0 g.O0 M O env σ H ∧ match mi env with
  | .ok ds => ∀ J H1, Same H H1 → ItOkS J ds O H1 → R J H1
  | .exc c d => XW G O σ H c d
  | .err => False
def DIS (X : Cx) (G : Gd) (M : List Md) (tg iter : Expr) (mi : Env' → Res (List D)) : Prop := PI X tg iter (tIS G M mi)
theorem DIS.of {X : Cx} {G : Gd} {M : List Md} {tg iter : Expr} {mi : Env' → Res (List D)} (h : DI X G M tg iter mi) : DIS X G M tg iter mi := pi_imp h fun σ H R ⟨g, O, env, sr, q⟩ => by
  refine ⟨g, O, env, sr, ?_⟩
  cases h : mi env with
  | err => rw [h] at q; exact q
  | exc c d => rw [h] at q; exact q
  | ok ds => rw [h] at q; exact fun J H1 s it => q J H1 s fun H O' i _ => it H O' i
theorem itOkS_list {K : PySem.W.Frag} {H1 : Hp} {O : AS} {p : Addr} {xs : List V} {ds : List D} (e : L2.Rd H1 p (.lst xs)) (r : RpA H1 O ds xs) : ItOkS (Itl K p) ds O H1 := fun H O' i sm s tr => by
  have e' := rd_same sm e
  have r' := r.mono s
  refine ⟨fun hi => ?_, fun hi => ⟨xs, Rd.seqL e', by rw [← r.length]; exact hi⟩⟩
  obtain ⟨v, hv, rv⟩ := r'.get (List.getElem?_eq_getElem hi)
  refine ⟨⟨xs, v, Rd.seqL e', hv⟩, fun x H' y => ?_⟩
  obtain ⟨rfl, y⟩ := y
  have := y xs (Rd.seqL e')
  rw [hv] at this
  cases this
  exact ⟨Same.refl _, _, List.getElem?_eq_getElem hi, rv⟩
/-- an owned list -/
def iOwn (m : Env' → Res D) : Env' → Res (List D) := fun env => (m env).bind fun d => match d with
  | .list ds => .ok ds
  | _ => .err
theorem dis_own {X : Cx} {G : Gd} {M : List Md} {k : Kd} {tg e : Expr} {m : Env' → Res D} (he : DE X G M k e m) : DIS X G M tg e (iOwn m) := pi_imp (pi_list he.co) fun σ H R ⟨g, O, env, sr, q⟩ => by
  refine ⟨g, O, env, sr, ?_⟩
  unfold iOwn at q
  cases h : m env with
  | err => rw [h] at q; exact q
  | exc c d => rw [h] at q; exact q
  | ok d =>
    rw [h, Res.bind_ok] at q
    intro H1 v s r
    cases d <;> simp only at q
    case list ds =>
      obtain ⟨p, xs, rfl, e1, r1⟩ := Rc.list_inv r
      exact ⟨p, rfl, ⟨xs, Rd.seqL e1⟩, q _ _ s (itOkS_list e1 r1)⟩
    all_goals exact q.elim
/-- the items of the new list -/
def lcG (f : D → Env' → Option Env') (nc : Env' → Res Bool) (m : Env' → Res D) : List D → Env' → Res (List D)
  | [], _ => .ok []
  | d :: ds, env => match f d env with
    | none => .err
    | some e1 => (noX (nc e1)).bind fun b => if b = true then (noX (m e1)).bind fun y => (lcG f nc m ds env).bind fun ys => .ok (y :: ys) else lcG f nc m ds env
def mLc (mi : Env' → Res (List D)) (f : D → Env' → Option Env') (nc : Env' → Res Bool) (m : Env' → Res D) (vs : List Nat) : Env' → Res D := fun env => (mi env).bind fun ds => (noX (lcG f nc m ds (wipeE env vs))).bind fun ys => if ys.length ≤ sizeLine then .ok (.list ys) else .err
/-- a clause's tests -/
def DTs (X : Cx) (G : Gd) (M : List Md) (es : List Expr) (m : Env' → Res Bool) : Prop := PTs X es (tT G M m)
theorem pts_imp {X : Cx} {e : List Expr} {t t' : TT} (h : PTs X e t) (i : ∀ σ H Q, t' σ H Q → t σ H Q) : PTs X e t' := ⟨fun pins s σ H Q I q => h.run pins s σ H Q I (i σ H Q q)⟩
def bYes : Env' → Res Bool := fun _ => .ok true
theorem dts_nil {X : Cx} {G : Gd} {M : List Md} : DTs X G M [] bYes := pts_imp pts_nil fun σ H Q ⟨g, O, env, sr, q⟩ => q H (Same.refl H)
theorem dts_one {X : Cx} {G : Gd} {M : List Md} {c : Expr} {nc : Env' → Res Bool} (h : DT X G M c nc) : DTs X G M [c] nc := pts_one h
/-- nothing is raised in a block -/
def Gd.blk (G : Gd) : Gd := ⟨fun _ _ _ _ => False, G.mg, G.ex⟩
section
variable {X : Cx} {G : Gd} {L : Lp} {M M' Mt : List Md} {k : Kd} {ws vs : List Nat} {mi : Env' → Res (List D)} {f : D → Env' → Option Env'} {nc : Env' → Res Bool} {m : Env' → Res D}
theorem tLc_ok (hws : ∀ i ∈ ws, i ∈ vs) (σ : L2.St) (H : Hp) (Q : VK) (h : tE G M .fr (mLc mi f nc m vs) σ H Q) : tLc (tIS G M mi) (tG (wipeM M vs) Mt ws f) (tT G.blk Mt nc) (tE G.blk Mt .pl m) vs σ H Q := by
  obtain ⟨g, O, env, sr, q⟩ := h
  refine ⟨g, O, env, sr, ?_⟩
  unfold mLc at q
  cases h : mi env with
  | err => rw [h] at q; exact q
  | exc c d => rw [h] at q; exact q
  | ok ds =>
    rw [h, Res.bind_ok] at q
    intro J H1 s1 it D hD
    cases h2 : lcG f nc m ds (wipeE env vs) with
    | err => rw [h2] at q; exact q.elim
    | exc c d => rw [h2] at q; exact q.elim
    | ok ys =>
      rw [h2] at q
      simp only [noX, Res.bind_ok] at q
      by_cases hz : ys.length ≤ sizeLine
      · rw [if_pos hz] at q
        refine ⟨fun i n H' => n = ds.length - i ∧ i ≤ ds.length ∧ Same H1 H' ∧ ∃ acc da rest, H' D = some (.lst acc) ∧ RpA H' (fun b => O b ∨ b = D) da acc ∧ lcG f nc m (ds.drop i) (wipeE env vs) = .ok rest ∧ da ++ rest = ys,
          ⟨_, rfl, Nat.zero_le _, same_new hD, [], [], ys, upd_same, .nil, h2, rfl⟩, ?_⟩
        rintro i n H2 ⟨rfl, hi, s2, acc, da, rest, hacc, ra, hr, hy⟩
        have sub2 : Sub H1 O H2 (fun b => O b ∨ b = D) := (Sub.more hD).trans (Sub.same s2 _)
        have srb := (sr.grow s1).blk vs s2 hD hacc
        obtain ⟨go, stop⟩ := it H2 _ i s2 sub2 srb.tr
        by_cases hlt : i < ds.length
        · obtain ⟨go, yld⟩ := go hlt
          refine .inr ⟨go, fun H' => Same H1 H' ∧ ∃ acc da rest, H' D = some (.lst acc) ∧ RpA H' (fun b => O b ∨ b = D) da acc ∧ lcG f nc m (ds.drop (i + 1)) (wipeE env vs) = .ok rest ∧ da ++ rest = ys,
            fun H' z => ⟨ds.length - (i + 1), by omega, rfl, hlt, z⟩, fun x H3 y => ?_⟩
          obtain ⟨s3, d, hd, rd⟩ := yld x H3 y
          refine ⟨_, g, _, wipeE env vs, d, srb.grow s3, rd, ?_⟩
          rw [List.drop_eq_getElem_cons hlt] at hr
          have hd' : ds[i] = d := by
            rw [List.getElem?_eq_getElem hlt] at hd
            exact Option.some.inj hd
          rw [hd'] at hr
          unfold lcG at hr
          cases hf : f d (wipeE env vs) with
          | none => rw [hf] at hr; cases hr
          | some e1 =>
            rw [hf] at hr
            simp only at hr ⊢
            intro σ4 H4 O4 on4 s4 _ sr4 eo
            subst eo
            refine ⟨(wipe_only on4 hws).trans wipe_idem, g, _, e1, sr4, ?_⟩
            cases hb : nc e1 with
            | err => rw [hb] at hr; cases hr
            | exc c d => rw [hb] at hr; cases hr
            | ok b =>
              rw [hb] at hr
              simp only [noX, Res.bind_ok] at hr
              intro H5 s5
              have s35 : Same H2 H5 := (s3.trans s4).trans s5
              cases b with
              | false =>
                rw [if_neg Bool.false_ne_true] at hr
                rw [if_neg Bool.false_ne_true]
                exact ⟨s2.trans s35, acc, da, rest, s35 _ _ hacc, ra.mono (Sub.same s35 _), hr, hy⟩
              | true =>
                rw [if_pos rfl] at hr
                rw [if_pos rfl]
                refine ⟨g, _, e1, sr4.grow s5, ?_⟩
                cases hm : m e1 with
                | err => rw [hm] at hr; cases hr
                | exc c d => rw [hm] at hr; cases hr
                | ok y' =>
                  rw [hm] at hr
                  simp only [noX, Res.bind_ok] at hr
                  cases hl : lcG f nc m (ds.drop (i + 1)) (wipeE env vs) with
                  | err => rw [hl] at hr; cases hr
                  | exc c d => rw [hl] at hr; cases hr
                  | ok r2 =>
                    rw [hl] at hr
                    simp only [Res.bind_ok] at hr
                    cases hr
                    intro H6 v s6 rv
                    have rv : Rp H6 (fun b => O b ∨ b = D) y' v := rv
                    have s36 : Same H2 H6 := s35.trans s6
                    have hacc6 := s36 _ _ hacc
                    have ra6 := ra.mono (Sub.same s36 (fun b => O b ∨ b = D))
                    have su : Sub H6 (fun b => O b ∨ b = D) (upd H6 D (.lst (acc ++ [v]))) (fun b => O b ∨ b = D) := Sub.upd (.inr rfl)
                    refine ⟨acc, hacc6, ?_, ?_, acc ++ [v], da ++ [y'], r2, upd_same, (ra6.append (.cons rv .nil)).mono su, rfl, ?_⟩
                    · rw [← ra6.length]
                      have : da.length + (r2.length + 1) ≤ sizeLine := by
                        have e := congrArg List.length hy
                        rw [List.length_append, List.length_cons] at e
                        omega
                      omega
                    · intro b u e
                      rw [upd_ne (ne_of_none e hD)]
                      exact (s2.trans s36) _ _ e
                    · rw [List.append_assoc]; exact hy
        · have hl : i = ds.length := by omega
          subst hl
          refine .inl ⟨stop (Nat.le_refl _), ?_⟩
          rw [List.drop_length] at hr
          unfold lcG at hr
          cases hr
          rw [List.append_nil] at hy
          subst hy
          exact q H2 _ (s1.trans s2) ⟨D, rfl, s1.free hD, .lst hacc ra⟩
      · rw [if_neg hz] at q
        exact q.elim
variable {elt tg iter : Expr} {ifs : List Expr} {scope : Scope} {own : List (Str × Nat)} {pos : Pos}
theorem de_lc (hc : X.calm = true) (hN : X.N.Nodup) (hws : ∀ i ∈ ws, i ∈ own.map (·.2)) (hi : DIS X G M tg iter mi) (ok : BlkOk X.N X.env.scope scope own)
    (hg : ∀ (s : Shared) (H : Hp) (C : Addr) (cl : List (Str × Addr)) (fp : List Addr), DG (X.blk s H scope (compEnvC scope cl C X.env) fp) (wipeM M (own.map (·.2))) Mt ws tg f)
    (ht : ∀ (s : Shared) (H : Hp) (C : Addr) (cl : List (Str × Addr)) (fp : List Addr), DTs (X.blk s H scope (compEnvC scope cl C X.env) fp) G.blk Mt ifs nc)
    (he : ∀ (s : Shared) (H : Hp) (C : Addr) (cl : List (Str × Addr)) (fp : List Addr), DE (X.blk s H scope (compEnvC scope cl C X.env) fp) G.blk Mt .pl elt m) (hs : ∀ x, foldedSetIterable iter X.env x = pure x := by intro _; rfl) :
    DE X G M .fr (.ListComp elt [⟨tg, iter, ifs, 0⟩] scope pos) (mLc mi f nc m (own.map (·.2))) := pe_imp (pe_lc hc hN hi ok hg ht he hs) (tLc_ok hws)
/-- y = [..] on one line, y a local -/
theorem ds_setLcG {i : Nat} {y : Str} {py spos : Pos} (hx : mle M L.Mx = true) (hc : X.calm = true) (hN : X.N.Nodup) (hy : X.N[i]? = some y) (hyl : X.env.scope.names.lookup y = some .local) (hws : ∀ i ∈ ws, i ∈ own.map (·.2))
    (hsw : swapsWith (.ListComp elt [⟨tg, iter, ifs, 0⟩] scope pos) (some (.Name y py)) spos.line X.env = pure true) (hi : DIS X G M tg iter mi) (ok : BlkOk X.N X.env.scope scope own)
    (hg : ∀ (s : Shared) (H : Hp) (C : Addr) (cl : List (Str × Addr)) (fp : List Addr), DG (X.blk s H scope (compEnvC scope cl C X.env) fp) (wipeM M (own.map (·.2))) Mt ws tg f)
    (ht : ∀ (s : Shared) (H : Hp) (C : Addr) (cl : List (Str × Addr)) (fp : List Addr), DTs (X.blk s H scope (compEnvC scope cl C X.env) fp) G.blk Mt ifs nc)
    (he : ∀ (s : Shared) (H : Hp) (C : Addr) (cl : List (Str × Addr)) (fp : List Addr), DE (X.blk s H scope (compEnvC scope cl C X.env) fp) G.blk Mt .pl elt m) (hs : ∀ x, foldedSetIterable iter X.env x = pure x := by intro _; rfl) :
    DS X G L M (M.set i .ow) (.Assign [.Name y py] (.ListComp elt [⟨tg, iter, ifs, 0⟩] scope pos) spos) (oSet i (mLc mi f nc m (own.map (·.2)))) :=
  ps_imp (ps_setLc hc hN hy hyl hsw hi ok hg ht he hs) fun E σ H h => by
    obtain ⟨g, O, env, sr, q⟩ := tS_iff.mp h
    refine tLc_ok hws σ H _ (tE_go sr hx q fun d q H' v s r => ?_)
    obtain ⟨p, rfl, n, r⟩ := r
    obtain ⟨sub, sr'⟩ := sr.setO i s n r
    exact q _ _ _ sub sr'
end
end DL

namespace DL
open PySem PySem.Spec L2
section
variable {X : Cx} {G : Gd} {L : Lp} {M : List Md} {k ka kb kc : Kd} {a b c e : Expr} {m ma mb mc : Env' → Res D} {ms : Env' → Res (List D)} {pos : Pos}
/-! ### a op b op' c -/
def mChain (f f' : D → D → Option D) (ma mb mc : Env' → Res D) : Env' → Res D := fun env => (ma env).bind fun x => (mb env).bind fun y => (Res.of (f x y)).bind fun z => (asB z).bind fun k => if k = true then (mc env).bind fun w => Res.of (f' y w) else .ok (.bool false)
theorem tChain_ok {r r' : R2} {f f' : D → D → Option D} (hB : B2 .pl r f) (hB' : B2 .pl r' f') (σ : L2.St) (H : Hp) (Q : VK) (h : tE G M .pl (mChain f f' ma mb mc) σ H Q) : tChain r r' (tE G M .co ma) (tE G M .co mb) (tE G M .co mc) σ H Q := by
  obtain ⟨g, O, env, sr, q⟩ := h
  refine ⟨g, O, env, sr, ?_⟩
  unfold mChain at q
  cases ha : ma env with
  | err => rw [ha] at q; exact q
  | exc c d => rw [ha] at q; exact q
  | ok x =>
    rw [ha, Res.bind_ok] at q
    intro H1 v1 s1 r1
    refine ⟨g, O, env, sr.grow s1, ?_⟩
    cases hb : mb env with
    | err => rw [hb] at q; exact q
    | exc c d => rw [hb] at q; exact XW.grow s1 q
    | ok y =>
      rw [hb, Res.bind_ok] at q
      intro H2 v2 s2 r2
      have s12 := s1.trans s2
      cases hf : f x y with
      | none => rw [hf] at q; exact q.elim
      | some d =>
        rw [hf, Res.of_some, Res.bind_ok] at q
        refine hB (Trk.grow sr.tr s12) (Rc.same s2 r1) r2 hf fun H3 v s3 r => ?_
        cases d <;> simp only [asB, Res.bind_err] at q
        case bool t =>
          rw [Res.bind_ok] at q
          refine ⟨t, Rc.bl_inv (.of r), ?_⟩
          have s13 := s12.trans s3
          cases t with
          | false =>
            rw [if_neg Bool.false_ne_true] at q ⊢
            exact q H3 _ s13 (.bl _)
          | true =>
            rw [if_pos rfl] at q ⊢
            refine ⟨g, O, env, sr.grow s13, ?_⟩
            cases hc : mc env with
            | err => rw [hc] at q; exact q
            | exc c d => rw [hc] at q; exact XW.grow s13 q
            | ok w =>
              rw [hc, Res.bind_ok] at q
              intro H4 v4 s4 r4
              cases hf2 : f' y w with
              | none => rw [hf2] at q; exact q.elim
              | some d2 =>
                rw [hf2] at q
                exact hB' (Trk.grow sr.tr (s13.trans s4)) (Rc.same (s3.trans s4) r2) r4 hf2 fun H' v s r => q H' v ((s13.trans s4).trans s) r
theorem de_chain {op op' : CmpOp} {r r' : R2} {f f' : D → D → Option D} (ho : OpR X (compareOp op) r) (ho' : OpR X (compareOp op') r') (hB : B2 .pl r f) (hB' : B2 .pl r' f') (ha : DE X G M ka a ma) (hb : DE X G M kb b mb) (hc : DE X G M kc c mc)
    (hm : lastMarks [op, op'] [b, c] = false := by with_unfolding_all rfl) : DE X G M .pl (.Compare a [op, op'] [b, c] pos) (mChain f f' ma mb mc) := pe_imp (pe_chain ho ho' ha.co hb.co hc.co hm) (tChain_ok hB hB')
theorem dt_chain {op op' : CmpOp} {r r' : R2} {f f' : D → D → Option D} (ho : OpR X (compareOp op) r) (ho' : OpR X (compareOp op') r') (hB : B2 .pl r f) (hB' : B2 .pl r' f') (ha : DE X G M ka a ma) (hb : DE X G M kb b mb) (hc : DE X G M kc c mc)
    (hm : lastMarks [op, op'] [b, c] = false := by with_unfolding_all rfl) : DT X G M (.Compare a [op, op'] [b, c] pos) (mB (mChain f f' ma mb mc)) := pt_imp (pt_chain ho ho' ha.co hb.co hc.co hm) fun σ H Q h => by
  obtain ⟨g, O, env, sr, q⟩ := h
  refine tChain_ok (G := G) (M := M) hB hB' σ H _ ⟨g, O, env, sr, ?_⟩
  unfold mB at q
  cases h : mChain f f' ma mb mc env with
  | err => rw [h] at q; exact q
  | exc c d => rw [h] at q; exact q
  | ok d =>
    rw [h, Res.bind_ok] at q
    intro H' v s r
    cases d <;> simp only [asB] at q
    case bool b => exact ⟨b, Rc.bl_inv (.of r), q H' s⟩
/-! ### sum, any, all of lists -/
def intsOf : List D → Option (List Int)
  | [] => some []
  | .int i :: ds => (intsOf ds).map (i :: ·)
  | _ => none
def boolsOf : List D → Option (List Bool)
  | [] => some []
  | .bool i :: ds => (boolsOf ds).map (i :: ·)
  | _ => none
theorem intsOf_ok {H : Hp} {O : AS} : ∀ {ds : List D} {vs : List V} {ns : List Int}, RpA H O ds vs → intsOf ds = some ns → vs = ns.map V.int
  | _, _, _, .nil, h => by cases h; rfl
  | _, _, _, .cons (d := d) (ds := ds) a b, h => by
    cases d <;> simp only [intsOf] at h <;> try cases h
    case int i =>
      cases e : intsOf ds with
      | none => rw [e] at h; cases h
      | some ns' =>
        rw [e] at h; cases h
        cases a
        rw [List.map_cons, intsOf_ok b e]
theorem boolsOf_ok {H : Hp} {O : AS} : ∀ {ds : List D} {vs : List V} {ns : List Bool}, RpA H O ds vs → boolsOf ds = some ns → vs = ns.map V.bl
  | _, _, _, .nil, h => by cases h; rfl
  | _, _, _, .cons (d := d) (ds := ds) a b, h => by
    cases d <;> simp only [boolsOf] at h <;> try cases h
    case bool i =>
      cases e : boolsOf ds with
      | none => rw [e] at h; cases h
      | some ns' =>
        rw [e] at h; cases h
        cases a
        rw [List.map_cons, boolsOf_ok b e]
def sumD : List D → Option D
  | [.list ds] => (intsOf ds).map fun ns => .int ns.sum
  | _ => none
def anyD : List D → Option D
  | [.list ds] => (boolsOf ds).map fun ns => .bool (ns.any id)
  | _ => none
def allD : List D → Option D
  | [.list ds] => (boolsOf ds).map fun ns => .bool (ns.all id)
  | _ => none
theorem cb_sum {K : PySem.W.Frag} : CB .pl .co (rSum K) sumD := by
  intro H O vs ds d Q tr r hf q
  unfold sumD at hf
  split at hf
  · rename_i xs
    cases e : intsOf xs with
    | none => rw [e] at hf; cases hf
    | some ns =>
      rw [e] at hf; cases hf
      obtain ⟨v, rfl, r1⟩ := RcA.one r
      obtain ⟨p, ys, rfl, e1, r2⟩ := r1.list_inv
      cases intsOf_ok r2 e
      exact ⟨p, ns, rfl, Rd.seqL e1, q H _ (Same.refl H) (.int _)⟩
  · cases hf
theorem cb_any {K : PySem.W.Frag} : CB .pl .co (rAny K) anyD := by
  intro H O vs ds d Q tr r hf q
  unfold anyD at hf
  split at hf
  · rename_i xs
    cases e : boolsOf xs with
    | none => rw [e] at hf; cases hf
    | some ns =>
      rw [e] at hf; cases hf
      obtain ⟨v, rfl, r1⟩ := RcA.one r
      obtain ⟨p, ys, rfl, e1, r2⟩ := r1.list_inv
      cases boolsOf_ok r2 e
      exact ⟨p, ns, rfl, Rd.seqL e1, q H _ (Same.refl H) (.bl _)⟩
  · cases hf
theorem cb_all {K : PySem.W.Frag} : CB .pl .co (rAll K) allD := by
  intro H O vs ds d Q tr r hf q
  unfold allD at hf
  split at hf
  · rename_i xs
    cases e : boolsOf xs with
    | none => rw [e] at hf; cases hf
    | some ns =>
      rw [e] at hf; cases hf
      obtain ⟨v, rfl, r1⟩ := RcA.one r
      obtain ⟨p, ys, rfl, e1, r2⟩ := r1.list_inv
      cases boolsOf_ok r2 e
      exact ⟨p, ns, rfl, Rd.seqL e1, q H _ (Same.refl H) (.bl _)⟩
  · cases hf
/-! ### methods that give a value -/
def MB (k : Kd) (r : V → List V → Hp → VK → Prop) (f : D → List D → Option D) : Prop := ∀ {H : Hp} {O : AS} {x : V} {vs : List V} {dx : D} {ds : List D} {d : D} {Q : VK}, Trk H O → Rc H O dx x → RcA H O ds vs → f dx ds = some d →
  (∀ H' v, Same H H' → RK k H O H' d v → Q v H') → r x vs H Q
def mM1 (ok : D → Bool) (f : D → List D → Option D) (ma : Env' → Res D) (ms : Env' → Res (List D)) : Env' → Res D := fun env => (ma env).bind fun x => if ok x = true then (ms env).bind fun ds => Res.of (f x ds) else .err
def isStrD : D → Bool
  | .str _ => true
  | _ => false
def isListD : D → Bool
  | .list _ => true
  | _ => false
theorem tM1_ok {T : String} {K : PySem.W.Frag} {ok : D → Bool} {r : V → List V → Hp → VK → Prop} {f : D → List D → Option D} (hty : ∀ H O d v, Rc H O d v → ok d = true → tyV K T v H) (hM : MB k r f) (σ : L2.St) (H : Hp) (Q : VK) (h : tE G M k (mM1 ok f ma ms) σ H Q) :
    tBM K T r (tE G M .co ma) (tAs G M .co ms) σ H Q := by
  obtain ⟨g, O, env, sr, q⟩ := h
  refine ⟨g, O, env, sr, ?_⟩
  unfold mM1 at q
  cases ha : ma env with
  | err => rw [ha] at q; exact q
  | exc c d => rw [ha] at q; exact q
  | ok x =>
    rw [ha, Res.bind_ok] at q
    intro H1 v1 s1 r1
    by_cases hx : ok x = true
    · rw [if_pos hx] at q
      refine ⟨hty _ _ _ _ r1 hx, g, O, env, sr.grow s1, ?_⟩
      cases hb : ms env with
      | err => rw [hb] at q; exact q
      | exc c d => rw [hb] at q; exact XW.grow s1 q
      | ok ds =>
        rw [hb, Res.bind_ok] at q
        intro H2 vs s2 r2
        cases hf : f x ds with
        | none => rw [hf] at q; exact q.elim
        | some d =>
          rw [hf] at q
          exact hM (Trk.grow sr.tr (s1.trans s2)) (Rc.same s2 r1) r2 hf fun H' v s r => q H' v ((s1.trans s2).trans s) (RK.back (s1.trans s2) r)
    · rw [if_neg hx] at q
      exact q.elim
theorem ty_str {K : PySem.W.Frag} : ∀ H O d v, Rc H O d v → isStrD d = true → tyV K "str" v H := by
  intro H O d v r h
  cases d <;> simp only [isStrD] at h <;> try cases h
  cases r.str_inv
  rfl
theorem ty_list {K : PySem.W.Frag} : ∀ H O d v, Rc H O d v → isListD d = true → tyV K "list" v H := by
  intro H O d v r h
  cases d <;> simp only [isListD] at h <;> try cases h
  obtain ⟨p, xs, rfl, e, _⟩ := r.list_inv
  exact .inl ⟨rfl, xs, Rd.seqL e⟩
def strsOf : List D → Option (List Str)
  | [] => some []
  | .str i :: ds => (strsOf ds).map (i :: ·)
  | _ => none
theorem strsOf_ok {H : Hp} {O : AS} : ∀ {ds : List D} {vs : List V} {ns : List Str}, RpA H O ds vs → strsOf ds = some ns → vs = ns.map V.str
  | _, _, _, .nil, h => by cases h; rfl
  | _, _, _, .cons (d := d) (ds := ds) a b, h => by
    cases d <;> simp only [strsOf] at h <;> try cases h
    case str i =>
      cases e : strsOf ds with
      | none => rw [e] at h; cases h
      | some ns' =>
        rw [e] at h; cases h
        cases a
        rw [List.map_cons, strsOf_ok b e]
def joinD : D → List D → Option D
  | .str a, [.list ds] => (strsOf ds).bind fun ys => if (ys.map (·.length)).sum + ys.length * a.length ≤ 16777216 then some (.str (Str.join a ys)) else none
  | _, _ => none
theorem mb_join {K : PySem.W.Frag} : MB .pl (fun x xs H Q => ∃ a p, ∃ ys : List Str, x = .str a ∧ xs = [.ref p] ∧ (SqL K H p (ys.map V.str) ∨ SqT K H p (ys.map V.str)) ∧
    (ys.map (·.length)).sum + ys.length * a.length ≤ 16777216 ∧ Q (.str (Txt.join a ys)) H) joinD := by
  intro H O x vs dx ds d Q tr rx rv hf q
  unfold joinD at hf
  split at hf
  · rename_i a xs
    cases e : strsOf xs with
    | none => rw [e] at hf; cases hf
    | some ys =>
      rw [e, Option.bind_some] at hf
      split at hf
      · rename_i hz
        cases hf
        cases rx.str_inv
        obtain ⟨v, rfl, r1⟩ := RcA.one rv
        obtain ⟨p, zs, rfl, e1, r2⟩ := r1.list_inv
        cases strsOf_ok r2 e
        exact ⟨a, p, ys, rfl, rfl, .inl (Rd.seqL e1), hz, by rw [TL.join_eq]; exact q H _ (Same.refl H) (.str _)⟩
      · cases hf
  · cases hf
theorem de_join {o arg : Expr} {apos : Pos} (ho : DE X G M ka o ma) (he : DE X G M kb arg m) (hs : starEach [arg] X.env = [(false, eval arg X.env)] := by rfl) (hbase : attributeBase o "join" X.env (eval o X.env) = eval o X.env := by rfl) (hline : (apos.endLine == pos.line) = true := by rfl)
    (hfew : ((backTo pos (starEach [arg] X.env)).all (fun x => !x.1) && (backToKw pos (keywordEach [] X.env)).all (fun x => x.1.isSome)
      && decide ([arg].length + ([] : List Keyword).length + (if ([] : List Keyword).isEmpty then 0 else 1) < 30)) = true := by rfl) :
    DE X G M .pl (.Call (.Attribute o "join" apos) [arg] [] pos) (mM1 isStrD joinD ma (aCons m aNil)) :=
  pe_imp (pe_bm PySem.F.plainAttrs_str PySem.F.slot_str_join PySem.F.type_str_join mt_join ho.co (da_consC he da_nil hs) hbase hfew hline hs) (tM1_ok ty_str mb_join)
/-- xs.index(y) of data -/
def indexD : D → List D → Option D
  | .list ds, [d] => if SeqAt.shaped (.list ds) && SeqAt.shaped d then (ds.findIdx? fun z => PyData.eqv z d).map fun j => .int j else none
  | _, _ => none
theorem mb_index {K : PySem.W.Frag} : MB .pl (rIndexD K) indexD := by
  intro H O x vs dx ds d Q tr rx rv hf q
  unfold indexD at hf
  split at hf
  · rename_i xs y
    by_cases hs : (SeqAt.shaped (.list xs) && SeqAt.shaped y) = true
    · rw [if_pos hs] at hf
      have h1 := (Bool.and_eq_true_iff.mp hs).1
      have h2 := (Bool.and_eq_true_iff.mp hs).2
      cases e : xs.findIdx? fun z => PyData.eqv z y with
      | none => rw [e] at hf; cases hf
      | some j =>
        rw [e] at hf; cases hf
        obtain ⟨v, rfl, r1⟩ := RcA.one rv
        obtain ⟨p, zs, rfl, e1, r2⟩ := rx.list_inv
        obtain ⟨hj, h3, h4⟩ := List.findIdx?_eq_some_iff_getElem.mp e
        refine ⟨p, v, y, xs, j, xs[j], rfl, rfl, .lst (Rd.seqL e1) (r2.dp (canLay_of_shaped h1)), r1.dp (canLay_of_shaped h2), h1, h2, List.getElem?_eq_getElem hj, h3, fun i z hi hz => ?_, q H _ (Same.refl H) (.int _)⟩
        have := h4 i hi
        obtain ⟨hlt, hz'⟩ := List.getElem?_eq_some_iff.mp hz
        rw [hz'] at this
        simpa using this
    · rw [if_neg hs] at hf
      cases hf
  · cases hf
theorem de_index {o arg : Expr} {apos : Pos} (hu : X.A.units + 65 < cLine) (ho : DE X G M ka o ma) (he : DE X G M kb arg m) (hs : starEach [arg] X.env = [(false, eval arg X.env)] := by rfl) (hbase : attributeBase o "index" X.env (eval o X.env) = eval o X.env := by rfl) (hline : (apos.endLine == pos.line) = true := by rfl)
    (hfew : ((backTo pos (starEach [arg] X.env)).all (fun x => !x.1) && (backToKw pos (keywordEach [] X.env)).all (fun x => x.1.isSome)
      && decide ([arg].length + ([] : List Keyword).length + (if ([] : List Keyword).isEmpty then 0 else 1) < 30)) = true := by rfl) :
    DE X G M .pl (.Call (.Attribute o "index" apos) [arg] [] pos) (mM1 isListD indexD ma (aCons m aNil)) :=
  pe_imp (pe_bm PySem.F.plainAttrs_list PySem.F.slot_list_index PySem.F.type_list_index (mt_indexD hu) ho.co (da_consC he da_nil hs) hbase hfew hline hs) (tM1_ok ty_list mb_index)

/-! ### isinstance(x, T), T a built-in type -/
def tyOfD : D → String
  | .none => "NoneType"
  | .bool _ => "bool"
  | .int _ => "int"
  | .str _ => "str"
  | .list _ => "list"
  | .tuple _ => "tuple"
  | .dict _ => "dict"
def isiD (T : String) : D → Option D
  | .dict _ => none
  | d => (kitB (tyOfD d) T).map .bool
theorem TyX_of {K : PySem.W.Frag} {H : Hp} {O : AS} {d : D} {v : V} (r : Rc H O d v) (hd : ∀ kvs, d ≠ .dict kvs) : TyX K H v (.type (tyOfD d)) := by
  cases d with
  | none => cases r.non_inv; exact .base .non
  | bool b => cases r.bl_inv; exact .base (.bl b)
  | int i => cases r.int_inv; exact .base (.int i)
  | str x => cases r.str_inv; exact .base (.str x)
  | list ds =>
    obtain ⟨p, xs, rfl, e, _⟩ := r.list_inv
    rcases e with e | ⟨o, e⟩
    · exact .base (.lst e)
    · exact .base (.frz e)
  | tuple ds =>
    obtain ⟨p, xs, rfl, e, _⟩ := r.tuple_inv
    rcases e with e | ⟨o, e⟩
    · exact .base (.tup e)
    · exact .fTuple e
  | dict kvs => exact absurd rfl (hd kvs)
/-- the second argument: a type's name -/
def mIsi (T : String) (m : Env' → Res D) : Env' → Res D := fun env => (m env).bind fun x => Res.of (isiD T x)
theorem de_isi {x : Expr} {tn : Str} {T : String} {p p2 : Pos} (hg : Gl X "isinstance") (hm : X.mg "isinstance" = none) (hv : bootBuiltins "isinstance" = some (.builtin "isinstance")) (hx : DE X G M ka x m) (hT : PE X (.Name tn p2) (tC (.ty T)))
    (hs : starEach [x, .Name tn p2] X.env = [(false, eval x X.env), (false, eval (.Name tn p2) X.env)] := by rfl) (hs2 : starEach [.Name tn p2] X.env = [(false, eval (.Name tn p2) X.env)] := by rfl) : DE X G M .pl (.Call (.Name "isinstance" p) [x, .Name tn p2] [] pos) (mIsi T m) :=
  pe_imp (pe_callB call_isi hg hm hv (pa_cons hx.co (pa_cons hT pa_nil hs2) (by rw [hs, hs2])) (he := by rw [hs, hs2]) (hpl := by rw [hs2]; rfl)) fun σ H Q ⟨g, O, env, sr, q⟩ => by
    refine ⟨g, O, env, sr, ?_⟩
    unfold mIsi at q
    cases h : m env with
    | err => rw [h] at q; exact q
    | exc c d => rw [h] at q; exact q
    | ok d =>
      rw [h, Res.bind_ok] at q
      intro H1 v s r
      have key : ∀ b, kitB (tyOfD d) T = some b → (∀ kvs, d ≠ .dict kvs) → isiD T d = some (.bool b) → rIsi X.K [v, .ty T] H1 Q := by
        intro b hb hd hi
        rw [hi] at q
        exact ⟨v, .ty T, _, _, b, rfl, .ty T, TyX_of r hd, kit_ty hb, q H1 _ s (.bl _)⟩
      cases hi : isiD T d with
      | none => rw [hi] at q; exact q.elim
      | some y =>
        cases d <;> simp only [isiD] at hi <;> try cases hi
        all_goals
          cases hb : kitB (tyOfD _) T with
          | none => rw [hb] at hi; cases hi
          | some b => exact key b hb (fun kvs z => by cases z) (by simp only [isiD, hb]; rfl)
/-- a type's name, a module's constant -/
theorem de_glob {x : Str} {v : V} {d : D} {u : Value} (hg : Gl X x) (hm : X.mg x = some u) (rv : RelV v u) (r : ∀ H O, Rp H O d v) (hd : (x == ("__debug__" : Str)) = false := by decide) : DE X G M .pl (.Name x pos) (mC d) := de_c (pe_glob hg hm rv hd) r
end
end DL

namespace DL
open PySem PySem.Spec L2
theorem bt_len : bootBuiltins "len" = some (.builtin "len") := by decide +kernel
theorem bt_abs : bootBuiltins "abs" = some (.builtin "abs") := by decide +kernel
theorem bt_max : bootBuiltins "max" = some (.builtin "max") := by decide +kernel
theorem bt_min : bootBuiltins "min" = some (.builtin "min") := by decide +kernel
theorem bt_sum : bootBuiltins "sum" = some (.builtin "sum") := by decide +kernel
theorem bt_any : bootBuiltins "any" = some (.builtin "any") := by decide +kernel
theorem bt_all : bootBuiltins "all" = some (.builtin "all") := by decide +kernel
theorem bt_isinstance : bootBuiltins "isinstance" = some (.builtin "isinstance") := by decide +kernel
theorem bt_repr : bootBuiltins "repr" = some (.builtin "repr") := by decide +kernel
theorem bt_sorted : bootBuiltins "sorted" = some (.builtin "sorted") := by decide +kernel
theorem bt_int : bootBuiltins "int" = some (.type "int") := by decide +kernel
theorem bt_list : bootBuiltins "list" = some (.type "list") := by decide +kernel
theorem bt_tuple : bootBuiltins "tuple" = some (.type "tuple") := by decide +kernel
theorem bt_dict : bootBuiltins "dict" = some (.type "dict") := by decide +kernel
theorem bt_str : bootBuiltins "str" = some (.type "str") := by decide +kernel
theorem bt_bool : bootBuiltins "bool" = some (.type "bool") := by decide +kernel
theorem bt_set : bootBuiltins "set" = some (.type "set") := by decide +kernel
theorem hr65 {k : Nat} {A : Around} (hr : Room k A) : A.units + 65 < cLine := by have := hr.un; omega
def wfuel : Nat := 1000000000
section
variable {X : Cx} {G : Gd} {L : Lp} {M Mt : List Md} {k ka kb kc : Kd} {a b c e : Expr} {m ma mb mc : Env' → Res D} {ms mi : Env' → Res (List D)} {pos : Pos}
/-! ### int, text or list times an int -/
theorem flat_rep (x : Array Nat) : ∀ n : Nat, (List.replicate n x).foldl (· ++ ·) #[] = (List.replicate n x.toList).flatten.toArray := by
  have key : ∀ (n : Nat) (acc : Array Nat), (List.replicate n x).foldl (· ++ ·) acc = acc ++ (List.replicate n x.toList).flatten.toArray := by
    intro n
    induction n with
    | zero => intro acc; simp
    | succ n ih =>
      intro acc
      rw [List.replicate_succ, List.foldl_cons, ih, List.replicate_succ, List.flatten_cons]
      apply Array.ext'
      simp
  intro n
  rw [key n #[]]
  simp
def rMulS : R2 := fun x y H Q => ∃ (z : Str) (j : Int), x = .str z ∧ y = .int j ∧ 0 ≤ j ∧ z.length * j.toNat ≤ 1000000 ∧ j ≤ 1000000 ∧ Q (.str (repS z j.toNat)) H
theorem repS_one (z : Str) : repS z 1 = z := by
  unfold repS
  simp
theorem repS_empty {z : Str} (h : z.length = 0) (n : Nat) : repS z n = z := by
  obtain ⟨c⟩ := z
  have hc : c = #[] := by
    apply Array.eq_empty_of_size_eq_zero
    exact h
  subst hc
  unfold repS
  congr 1
  have : (List.replicate n ([] : List Nat)).flatten = [] := by
    induction n with
    | zero => rfl
    | succ n ih => rw [List.replicate_succ, List.flatten_cons, ih]; rfl
  simp [this]
theorem op_mulS : OpR X (binaryOp .Mult) rMulS := by
  intro pins s σ H x y v u Q I rx ry h
  obtain ⟨z, j, rfl, rfl, h0, h1, h2, q⟩ := h
  obtain ⟨t, rfl⟩ := rx
  obtain ⟨t', rfl⟩ := ry
  have fin : ∀ {w' : Str} {tk tk' : Tok}, w' = repS z j.toNat → EP X pins σ Q (.str w' tk) { s with toks := tk' } := fun {w' tk tk'} e => ⟨.str w', H, I.tok _, ⟨_, rfl⟩, by rw [e]; exact q⟩
  have fin0 : ∀ {w' : Str} {tk : Tok}, w' = repS z j.toNat → EP X pins σ Q (.str w' tk) s := fun {w' tk} e => ⟨.str w', H, I, ⟨_, rfl⟩, by rw [e]; exact q⟩
  refine PySem.P.mul_str ?_ (fun hn ho => ?_) (fun hn ho => ?_) ?_
  · rw [decide_eq_false (by omega), decide_eq_false (by omega)]
    rfl
  · have hj : 1 ≤ j := by omega
    have : (z.length : Int) ≤ 1000000 := by
      have h3 : z.length * 1 ≤ z.length * j.toNat := Nat.mul_le_mul_left _ (by omega)
      omega
    have h5 : (1000001 : Int) ≤ (2 ^ 63 - 1) / j := by
      refine Int.le_ediv_of_mul_le (by omega) ?_
      have : (1000001 : Int) * j ≤ 1000001 * 1000000 := Int.mul_le_mul_of_nonneg_left h2 (by decide)
      omega
    omega
  · unfold Builtin.Str.tooLong
    simp only [decide_eq_false_iff_not, Nat.not_lt]
    rw [sizeLine_eq]
    omega
  · by_cases hj : j < 1
    · rw [if_pos hj]
      refine ⟨by decide, fin ?_⟩
      have : j.toNat = 0 := by omega
      rw [this]
      rfl
    · rw [if_neg hj]
      by_cases ho : (j == 1 || z.length == 0) = true
      · rw [if_pos ho]
        refine fin0 ?_
        rcases Bool.or_eq_true_iff.mp ho with e | e
        · have : j = 1 := by simpa using e
          subst this
          exact (repS_one z).symm
        · exact (repS_empty (by simpa using e) _).symm
      · rw [if_neg ho]
        refine ⟨?_, fin ?_⟩
        · rw [flat_rep]
          show (List.replicate j.toNat z.cps.toList).flatten.toArray.size ≤ sizeLine
          rw [List.size_toArray, List.length_flatten, List.map_replicate, List.sum_replicate_nat, sizeLine_eq]
          have : z.cps.toList.length = z.length := by simp [Str.length]
          rw [this, Nat.mul_comm]
          omega
        · rw [flat_rep]
          rfl
def mulA : D → D → Option D
  | .int i, .int j => if CMul i j then some (.int (i * j)) else none
  | .str x, .int j => if 0 ≤ j ∧ x.length * j.toNat ≤ 1000000 ∧ j ≤ 1000000 then some (.str (repS x j.toNat)) else none
  | .list xs, .int j => if 0 ≤ j ∧ xs.length * j.toNat ≤ 1000000 ∧ j ≤ 1000000 then some (.list (List.replicate j.toNat xs).flatten) else none
  | _, _ => none
def rMulL : R2 := fun x y H Q => ∃ l k xs, x = .ref l ∧ y = .int k ∧ H l = some (.lst xs) ∧ -(2 ^ 63) ≤ k ∧ k < 2 ^ 63 ∧ xs.length * k.toNat ≤ sizeLine ∧
  ∀ p, H p = none → Q (.ref p) (upd H p (.lst (List.replicate k.toNat xs).flatten))
def mulG : D → D → Option D
  | .int i, .int j => if CMul i j then some (.int (i * j)) else none
  | .str x, .int j => if 0 ≤ j ∧ x.length * j.toNat ≤ 1000000 ∧ j ≤ 1000000 then some (.str (repS x j.toNat)) else none
  | _, _ => none
theorem b2_mul : B2 .pl (fun x y H Q => rI CMul (fun i j => .int (i * j)) x y H Q ∨ rMulS x y H Q) mulG := by
  intro H O x y dx dy d Q tr rx ry hf q
  cases dx <;> cases dy <;> simp only [mulG] at hf <;> try cases hf
  case int.int i j =>
    cases rx.int_inv; cases ry.int_inv
    split at hf <;> cases hf
    rename_i hc
    exact .inl ⟨i, j, rfl, rfl, hc, q H _ (Same.refl H) (.int _)⟩
  case str.int x j =>
    cases rx.str_inv; cases ry.int_inv
    split at hf <;> cases hf
    rename_i hc
    exact .inr ⟨x, j, rfl, rfl, hc.1, hc.2.1, hc.2.2, q H _ (Same.refl H) (.str _)⟩
theorem de_mul (ha : DE X G M ka a ma) (hb : DE X G M kb b mb) : DE X G M .pl (.BinOp a .Mult b pos) (m2 mulG ma mb) := de_op (op_mul.or op_mulS) b2_mul ha hb
/-! ### lists by + and slices, owned -/
def catD : D → D → Option D := fun x y => match x, y with | .list x, .list y => if x.length + y.length ≤ sizeLine then some (.list (x ++ y)) else none | _, _ => none
theorem de_cat (ha : DE X G M ka a ma) (hb : DE X G M kb b mb) : DE X G M .fr (.BinOp a .Add b pos) (m2 catD ma mb) := de_op op_cat2 b2_cat ha hb
def slLD : D → Option Int → Option Int → Option D := fun x lo hi => match x with | .list ds => some (.list (cut ds lo hi)) | _ => none
theorem de_slL {lo hi : Option Expr} {p2 : Pos} {ml mh : Env' → Res (Option Int)} (ha : DE X G M ka a ma) (hl : DO X G M lo ml) (hh : DO X G M hi mh) : DE X G M .fr (.Subscript a (.Slice lo hi none p2) pos) (m3 slLD ma ml mh) := de_slG sl_list s3_list ha hl hh
/-! ### name += e: ints, texts -/
def ipAddA : TIp := fun x y H Q => ipI (fun i j => i + j) x y H Q ∨ ∃ i j, x = .str i ∧ y = .str j ∧ i.length + j.length ≤ sizeLine ∧ Q (.str (i ++ j)) H
theorem pip_of {op : Operator} {r : TIp} (h : OpR X (inplaceOp op) r) : PIp X op r := by
  intro pins s σ H x y v u Q I rx ry q
  exact h pins s σ H x y v u Q I rx ry q
theorem ip_addA : PIp X .Add ipAddA := by
  intro pins s σ H x y v u Q I rx ry q
  rcases q with q | q
  · exact ip_add pins s σ H x y v u Q I rx ry q
  · exact pip_of iop_add_str pins s σ H x y v u Q I rx ry q
def augAdd : D → D → Option D
  | .int i, .int j => some (.int (i + j))
  | .str x, .str y => if x.length + y.length ≤ sizeLine then some (.str (x ++ y)) else none
  | _, _ => none
theorem i2_addA : I2 ipAddA augAdd := by
  intro H O x y dx dy d Q tr rx ry hf q
  cases dx <;> cases dy <;> simp only [augAdd] at hf <;> try cases hf
  case int.int i j =>
    cases rx.int_inv; cases ry.int_inv
    exact .inl ⟨_, _, rfl, rfl, q H _ (Same.refl H) (.int _)⟩
  case str.str i j =>
    cases rx; cases ry
    split at hf <;> cases hf
    rename_i hz
    exact .inr ⟨_, _, rfl, rfl, hz, q H _ (Same.refl H) (.str _)⟩
variable {ws : List Nat} {f : D → Env' → Option Env'} {nc : Env' → Res Bool}
/-- y = [..] on one line, y a local -/
theorem ds_setLc {elt tg iter : Expr} {ifs : List Expr} {scope : Scope} {own : List (Str × Nat)} {i : Nat} {y : Str} {py spos : Pos} (hx : mle M L.Mx = true) (hc : X.calm = true) (hN : X.N.Nodup) (hws : ∀ i ∈ ws, i ∈ own.map (·.2)) (hi : DIS X G M tg iter mi) (ok : BlkOk X.N X.env.scope scope own)
    (hg : ∀ (s : Shared) (H : Hp) (C : Addr) (cl : List (Str × Addr)) (fp : List Addr), DG (X.blk s H scope (compEnvC scope cl C X.env) fp) (wipeM M (own.map (·.2))) Mt ws tg f)
    (ht : ∀ (s : Shared) (H : Hp) (C : Addr) (cl : List (Str × Addr)) (fp : List Addr), DTs (X.blk s H scope (compEnvC scope cl C X.env) fp) G.blk Mt ifs nc)
    (he : ∀ (s : Shared) (H : Hp) (C : Addr) (cl : List (Str × Addr)) (fp : List Addr), DE (X.blk s H scope (compEnvC scope cl C X.env) fp) G.blk Mt .pl elt m)
    (hy : X.N[i]? = some y := by rfl) (hyl : X.env.scope.names.lookup y = some .local := by rfl)
    (hsw : swapsWith (.ListComp elt [⟨tg, iter, ifs, 0⟩] scope pos) (some (.Name y py)) spos.line X.env = pure true := by exact sw_true rfl rfl rfl (by decide +kernel)) (hs : ∀ x, foldedSetIterable iter X.env x = pure x := by intro _; rfl) :
    DS X G L M (M.set i .ow) (.Assign [.Name y py] (.ListComp elt [⟨tg, iter, ifs, 0⟩] scope pos) spos) (oSet i (mLc mi f nc m (own.map (·.2)))) := ds_setLcG hx hc hN hy hyl hws hsw hi ok hg ht he hs
end
end DL

namespace DL
open PySem PySem.Spec L2
/-! ### errors with one field, at -/
def spInit (K : PySem.W.Frag) : Sp := fun vs H Q _ => ∃ (a C : Addr) (v : V), vs = [.ref a, v] ∧ OexC K C ∧ PySem.W.findIn K (.ref C) "at" = some none ∧ H a = some (exo a C none) ∧
  ∀ dx, H dx = none → dx ≠ a → Q .non (upd (upd H dx (exd dx [(("at" : Str), v)])) a (exo a C (some dx)))
structure ErrF (K : PySem.W.Frag) (mg : Str → Option Value) (x : Str) (C fI : Addr) : Prop where
  g : mg x = some (.ref C)
  t : OexC K C
  i : PySem.W.findIn K (.ref C) "__init__" = some (some (.ref fI))
  n : PySem.W.findIn K (.ref C) "at" = some none
def oRaise (c : Str) (m : Env' → Res D) : Env' → Out := fun env => exOut (m env) env fun d => .exc c d env
section
variable {X : Cx} {G : Gd} {L : Lp} {M M' Mt : List Md} {k ka kb kc : Kd} {a b c e : Expr} {m ma mb mc : Env' → Res D} {ms mi : Env' → Res (List D)} {pos : Pos}
theorem ds_raise {x : Str} {C fI : Addr} {fd : FuncData} {lv : Nat} {ps : List Str} {p pos2 : Pos} (hc : X.calm = true) (Er : ErrF X.K X.mg x C fI) (tI : PySem.W.typeIn X.K (.ref fI) = some (.type "function")) (F1 : FnOk X.prog X.w X.K X.mg X.base (L2.CX X.prog X.w) lv fI fd ps (spInit X.K)) (hr : Room (lv + 1) X.A) (hb : Binds X.K fd ps [])
    (tk : Takes X G.W) (hx : mle M L.Mx = true) (hg : Gl X x) (hG : G.mg x = some (.ref C)) (ha : DE X G M .pl e m) (hdb : (x == ("__debug__" : Str)) = false := by decide) (he : starEach [e] X.env = [(false, eval e X.env)] := by rfl) :
    DS X G L M M' (.Raise (some (.Call (.Name x p) [e] [] pos)) none pos2) (oRaise x m) :=
  ps_imp (L2.ps_raise hc tk (pmk_oex Er.t Er.i tI F1 hr hb .nil passL hg Er.g (da_cons ha da_nil he) hdb he rfl)) fun E σ H h => by
    obtain ⟨g, O, env, sr, q⟩ := tS_iff.mp h
    refine ⟨g, O, env, sr, ?_⟩
    unfold oRaise at q
    unfold aCons aNil
    cases h : m env with
    | err => rw [h] at q; exact q
    | exc c d =>
      rw [h] at q
      exact fun H' dd cls va s h1 h2 h3 => q σ H' O dd cls va (Sub.same s O) ((sr.grow s).weak hx) h1 h2 h3
    | ok d =>
      rw [h, exOut_ok] at q
      simp only [Res.bind_ok]
      intro H1 vs s r
      have r : RpA H1 O [d] vs := r
      cases r with
      | cons r1 r2 =>
        cases r2
        rename_i v
        refine ⟨Nat.succ_le_of_lt (Nat.zero_lt_succ 999), fun a ha => ⟨a, C, v, rfl, Er.t, Er.n, upd_same, fun dx hdx ne => ?_⟩⟩
        have hd1 : H1 dx = none := by rw [upd_ne ne] at hdx; exact hdx
        have e1 : upd (upd (upd H1 a (exo a C none)) dx (exd dx [(("at" : Str), v)])) a (exo a C (some dx)) dx = some (exd dx [(("at" : Str), v)]) := by rw [upd_ne ne, upd_same]
        refine ⟨rfl, dx, _, upd_same, e1, hd1, ?_⟩
        have sm : Same H1 (upd (del (upd (upd (upd H1 a (exo a C none)) dx (exd dx [(("at" : Str), v)])) a (exo a C (some dx))) a) dx (.xd [(("at" : Str), v)])) := fun b u e => by
          have n1 : b ≠ dx := ne_of_none e hd1
          have n2 : b ≠ a := ne_of_none e ha
          rw [upd_ne n1, del_ne n2, upd_ne n2, upd_ne n1, upd_ne n2]
          exact e
        exact q σ _ O dx (.ref C) v (Sub.same (s.trans sm) O) ((sr.grow (s.trans sm)).weak hx) hG upd_same (r1.mono (Sub.same sm O))

/-! ### try -/
theorem SR.reground {H0 H H2 : Hp} {O0 O O2 : AS} {M N : List Md} {env env2 : Env'} {σ σ2 : L2.St} (r : SR H0 O0 M O env σ H) (r2 : SR H O N O2 env2 σ2 H2) : SR H0 O0 N O2 env2 σ2 H2 where
  same := r.same.trans r2.same
  sub0 := fun a h => r2.sub0 a (r.sub0 a h)
  tr := r2.tr
  new := fun a h => by
    rcases r2.new a h with z | z
    · exact r.new a z
    · exact .inr (r.same.free z)
  len := r2.len
  fz := r2.fz
  ow := fun i d hm he => by
    obtain ⟨a, ea, oa, na, ra⟩ := r2.ow i d hm he
    exact ⟨a, ea, oa, fun z => na (r.sub0 a z), ra⟩
  dist := r2.dist
  exs := r2.exs
/-- the modes without what is owned -/
def noOw : List Md → List Md
  | [] => []
  | .ow :: ms => .un :: noOw ms
  | m :: ms => m :: noOw ms
theorem noOw_get : ∀ {M : List Md} {i : Nat} {md : Md}, (noOw M)[i]? = some md → md ≠ .un → M[i]? = some md ∧ md ≠ .ow
  | [], i, md, h, _ => by simp [noOw] at h
  | .ow :: ms, 0, md, h, u => by
    simp [noOw] at h
    exact absurd h.symm u
  | .fz :: ms, 0, md, h, u => by
    simp [noOw] at h
    subst h
    simp
  | .un :: ms, 0, md, h, u => by
    simp [noOw] at h
    exact absurd h.symm u
  | .ex b :: ms, 0, md, h, u => by
    simp [noOw] at h
    subst h
    simp
  | .ex b :: ms, i + 1, md, h, u => by
    simp only [noOw, List.getElem?_cons_succ] at h ⊢
    exact noOw_get h u
  | .ow :: ms, i + 1, md, h, u => by
    simp only [noOw, List.getElem?_cons_succ] at h ⊢
    exact noOw_get h u
  | .fz :: ms, i + 1, md, h, u => by
    simp only [noOw, List.getElem?_cons_succ] at h ⊢
    exact noOw_get h u
  | .un :: ms, i + 1, md, h, u => by
    simp only [noOw, List.getElem?_cons_succ] at h ⊢
    exact noOw_get h u
/-- a new ground; slot i forgotten -/
theorem SR.newground {H0 H : Hp} {O0 O : AS} {M : List Md} {env : Env'} {σ : L2.St} {a : Addr} (i : Nat) (r : SR H0 O0 M O env σ H) (hi : i < σ.length) : SR H O ((noOw M).set i (.ex a)) O (env.set i none) (σ.set i (some (.ref a))) H where
  same := Same.refl H
  sub0 := fun _ h => h
  tr := r.tr
  new := fun _ h => .inl h
  len := by simpa using r.len
  fz := fun j d hm he => by
    have ne : j ≠ i := fun z => by
      subst z
      obtain ⟨hlt, _⟩ := List.getElem?_eq_some_iff.mp he
      rw [List.getElem?_set_self (by simpa using hlt)] at he; cases he
    rw [List.getElem?_set_ne (Ne.symm ne)] at hm he ⊢
    exact r.fz j d (noOw_get hm (by simp)).1 he
  ow := fun j d hm he => by
    have ne : j ≠ i := fun z => by
      subst z
      obtain ⟨hlt, _⟩ := List.getElem?_eq_some_iff.mp he
      rw [List.getElem?_set_self (by simpa using hlt)] at he; cases he
    rw [List.getElem?_set_ne (Ne.symm ne)] at hm
    exact absurd rfl (noOw_get hm (by simp)).2
  dist := fun j l d e a hm _ he => by
    have ne : j ≠ i := fun z => by
      subst z
      obtain ⟨hlt, _⟩ := List.getElem?_eq_some_iff.mp he
      rw [List.getElem?_set_self (by simpa using hlt)] at he; cases he
    rw [List.getElem?_set_ne (Ne.symm ne)] at hm
    exact absurd rfl (noOw_get hm (by simp)).2
  exs := fun j b hm => by
    by_cases ne : j = i
    · subst ne
      rw [List.getElem?_set_self hi]
      obtain ⟨hlt, _⟩ := List.getElem?_eq_some_iff.mp hm
      rw [List.getElem?_set_self (by simpa using hlt)] at hm
      cases hm; rfl
    · rw [List.getElem?_set_ne (Ne.symm ne)] at hm ⊢
      exact r.exs j b (noOw_get hm (by simp)).1
theorem SR.drop {H0 H : Hp} {O0 O : AS} {M : List Md} {env : Env'} {σ : L2.St} (i : Nat) (v : Option V) (r : SR H0 O0 M O env σ H) : SR H0 O0 (M.set i .un) O (env.set i none) (σ.set i v) H where
  same := r.same
  sub0 := r.sub0
  tr := r.tr
  new := r.new
  len := by simpa using r.len
  fz := fun j d hm he => by
    have ne : j ≠ i := fun z => by
      subst z
      obtain ⟨hlt, _⟩ := List.getElem?_eq_some_iff.mp he
      rw [List.getElem?_set_self (by simpa using hlt)] at he; cases he
    rw [List.getElem?_set_ne (Ne.symm ne)] at hm he ⊢
    exact r.fz j d hm he
  ow := fun j d hm he => by
    have ne : j ≠ i := fun z => by
      subst z
      obtain ⟨hlt, _⟩ := List.getElem?_eq_some_iff.mp he
      rw [List.getElem?_set_self (by simpa using hlt)] at he; cases he
    rw [List.getElem?_set_ne (Ne.symm ne)] at hm he ⊢
    exact r.ow j d hm he
  dist := fun j l d e a h1 h2 h3 h4 h5 h6 => by
    have ne : ∀ {x : Nat} {y : D}, (env.set i none)[x]? = some (some y) → x ≠ i := fun {x y} he z => by
      subst z
      obtain ⟨hlt, _⟩ := List.getElem?_eq_some_iff.mp he
      rw [List.getElem?_set_self (by simpa using hlt)] at he; cases he
    have n1 := ne h3
    have n2 := ne h4
    rw [List.getElem?_set_ne (Ne.symm n1)] at h1 h3 h5
    rw [List.getElem?_set_ne (Ne.symm n2)] at h2 h4 h6
    exact r.dist j l d e a h1 h2 h3 h4 h5 h6
  exs := fun j a hm => by
    have ne : j ≠ i := fun z => by
      subst z
      obtain ⟨hlt, _⟩ := List.getElem?_eq_some_iff.mp hm
      rw [List.getElem?_set_self (by simpa using hlt)] at hm; cases hm
    rw [List.getElem?_set_ne (Ne.symm ne)] at hm ⊢
    exact r.exs j a hm
theorem RK.reground {k : Kd} {H0 H H' : Hp} {O0 O : AS} {M : List Md} {env : Env'} {σ : L2.St} {d : D} {v : V} (r : SR H0 O0 M O env σ H) (q : RK k H O H' d v) : RK k H0 O0 H' d v := by
  cases k with
  | pl => exact Rp.mono (Sub.less r.sub0) q
  | co =>
    have q : Rc H' O d v := q
    show Rc H' O0 d v
    cases q with
    | of q => exact .of (Rp.mono (Sub.less r.sub0) q)
    | rt q2 => exact .rt (Rt.mono (Sub.less r.sub0) rfl q2)
  | fr =>
    obtain ⟨a, e, n, q⟩ := q
    exact ⟨a, e, r.same.free n, q.mono (Sub.less fun b z => z.elim (fun z => .inl (r.sub0 b z)) .inr) rfl⟩
/-- what becomes of a suite's outcome, slot i emptied behind it -/
def suOut (i : Nat) : Out → Out
  | .nx e => .nx (e.set i none)
  | .bk e => .bk (e.set i none)
  | .ct e => .ct (e.set i none)
  | .exc _ _ _ => .err
  | x => x
def oTry (i : Nat) (h : Str → Option Bool) (o : Env' → Out) (su : Str → D → Env' → Out) : Env' → Out := fun env => match o env with
  | .exc c d e1 => match h c with
    | some true => if i < e1.length then suOut i (su c d (e1.set i none)) else .err
    | some false => .exc c d e1
    | none => .err
  | x => x
theorem ds_tryAs {i : Nat} {n x : Str} {cv : Value} {body suite : List Stmt} {b₀ : Stmt} {np pos' : Pos} {h : Str → Option Bool} {o : Env' → Out} {su : Str → D → Env' → Out} {M2 : List Md} (hstk : X.stack = X.env :: X.outer) (hf : X.env.frame = some X.env.locals) (hN : X.N.Nodup) (hi : X.N[i]? = some n) (hln : X.env.kindOf n = some .local)
    (hcN : Names X x cv) (tk : Takes X G.W) (hx : mle Mt L.Mx = true) (hh : ∀ cn b, h cn = some b → ∀ cls, G.mg cn = some cls → PySem.W.exmOne X.K cls cv = some b) (hM : mle (M2.set i .un) M' = true) (hMb : mle (L.Mb.set i .un) L.Mb = true)
    (hb : ∀ (W : WX) (pn : List (Addr × Obj)) (xe : Value → Shared → Prop), Takes (X.tr pn xe) W → PassesOwn (model X.prog X.w) X.A X.env xe → DSs (X.tr pn xe) ⟨W, G.mg, G.ex⟩ { L with Mx := Mt } M M' body o)
    (hsu : ∀ (cn : Str) (dat : D) (a : Addr) (oe : Obj) (cls : Value) (dd : Addr) (pn : List (Addr × Obj)), h cn = some true → G.mg cn = some cls → Zc cls (some dd) oe → (∃ vs, oe.data = .fields vs) → DSs (X.suite a ((a, oe) :: pn)) ⟨fun _ _ _ _ => False, G.mg, some (dd, dat)⟩ ⟨L.Mb, [], L.kr⟩ ((noOw Mt).set i (.ex a)) M2 (b₀ :: suite) (su cn dat)) :
    DS X G L M M' (.Try body [.ExceptHandler (some (.Name x np)) (some n) (b₀ :: suite) pos'] [] [] pos) (oTry i h o su) := by
  refine ps_imp (L2.ps_try_as (tb := fun W => tS ⟨W, G.mg, G.ex⟩ { L with Mx := Mt } M M' o)
    (ts := fun a cls d E σ H => ∃ (cn : Str) (dat : D) (dd : Addr), d = some dd ∧ h cn = some true ∧ G.mg cn = some cls ∧ tS ⟨fun _ _ _ _ => False, G.mg, some (dd, dat)⟩ ⟨L.Mb, [], L.kr⟩ ((noOw Mt).set i (.ex a)) M2 (su cn dat) E σ H)
    hstk hf hN hi hln hcN tk hb fun a oe cls d pn hz hv => ⟨fun pins s σ H D I ⟨cn, dat, dd, e, h1, h2, q⟩ => by subst e; exact (hsu cn dat a oe cls dd pn h1 h2 hz hv).run pins s σ H D I q⟩) fun E σ H hq => ?_
  obtain ⟨g, O, env, sr, q⟩ := tS_iff.mp hq
  refine tS_iff.mpr ⟨g, O, env, sr, ?_⟩
  unfold oTry at q
  cases ho : o env with
  | nx e => rw [ho] at q; exact q
  | rt d => rw [ho] at q; exact q
  | bk e => rw [ho] at q; exact q
  | ct e => rw [ho] at q; exact q
  | err => rw [ho] at q; exact q
  | exc cn dat e1 =>
    rw [ho] at q
    simp only at q
    intro σ' H' O' dd cls va sub sr' hmg hxd hrp
    cases hhc : h cn with
    | none => rw [hhc] at q; exact q.elim
    | some bb =>
      rw [hhc] at q
      cases bb with
      | false => exact ⟨false, hh cn _ hhc cls hmg, (fun z => nomatch z), fun _ => q σ' H' O' dd cls va sub (sr'.weak hx) hmg hxd hrp⟩
      | true =>
        try simp only at q
        by_cases hil' : i < e1.length
        case neg => rw [if_neg hil'] at q; exact q.elim
        rw [if_pos hil'] at q
        have hil : i < σ'.length := by rw [← sr'.len]; exact hil'
        refine ⟨true, hh cn _ hhc cls hmg, fun _ a ha => ⟨cn, dat, dd, rfl, hhc, hmg, ?_⟩, fun z => nomatch z⟩
        refine tS_iff.mpr ⟨⟨H', O', fun p hp => by cases hp; exact ⟨va, hxd, hrp⟩⟩, O', e1.set i none, sr'.newground i hil, ?_⟩
        have q := OutOk.sub sub q
        try simp only at q
        cases hs : su cn dat (e1.set i none) with
        | nx e2 =>
          rw [hs] at q
          exact fun σ2 H2 O2 s2 r2 => q _ H2 O2 s2 (((sr'.reground r2).drop i none).weak hM)
        | rt d =>
          rw [hs] at q
          exact fun H2 v s2 r2 => q H2 v (sr'.same.trans s2) (RK.reground sr' r2)
        | bk e2 =>
          rw [hs] at q
          exact fun σ2 H2 O2 s2 r2 => q _ H2 O2 s2 (((sr'.reground r2).drop i none).weak hMb)
        | ct e2 =>
          rw [hs] at q
          exact fun σ2 H2 O2 s2 r2 => q _ H2 O2 s2 (((sr'.reground r2).drop i none).weak hMb)
        | exc c d e => rw [hs] at q; exact q.elim
        | err => rw [hs] at q; exact q.elim
/-- e.at, e the caught error -/
theorem Rp.ground {H0 H : Hp} {O0 O : AS} {M : List Md} {env : Env'} {σ : L2.St} {d : D} {v : V} {g0 : Hp} {o0 : AS} (r : SR g0 o0 M O env σ H) (q : Rp g0 o0 d v) : Rp H O d v :=
  q.mono ⟨fun a u ha hr => ⟨rd_same r.same hr, fun z => by
    rcases r.new a z with w | w
    · exact ha w
    · exact rd_ne_none hr w⟩, fun a o u _ e => r.same _ _ e⟩
theorem de_at {a C dd : Addr} {oe : Obj} {cls : Value} {pn : List (Addr × Obj)} {i : Nat} {dat : D} {ex : Expr} {mg : Str → Option Value} {W : WX} (Xf : XfC X.K C) (hno : PySem.W.findIn X.K (.ref C) "at" = some none) (hz : Zc cls (some dd) oe) (hf : ∃ vs, oe.data = .fields vs) (hcl : cls = .ref C)
    (he : PE (X.suite a ((a, oe) :: pn)) ex (tVar i)) (hm : M[i]? = some (.ex a)) (hb : attributeBase ex "at" X.env (eval ex X.env) = eval ex X.env := by rfl) :
    DE (X.suite a ((a, oe) :: pn)) ⟨W, mg, some (dd, dat)⟩ M .pl (.Attribute ex "at" pos) (mC dat) := pe_imp (pe_xf Xf hno hz hf he hb) fun σ H Q ⟨g, O, env, sr, q⟩ => by
  obtain ⟨va, hxd, hrp⟩ := g.hex _ rfl
  refine ⟨_, sr.exs i a hm, rfl, hcl, dd, _, va, rfl, sr.same _ _ hxd, by simp [List.lookup], q H _ (Same.refl H) (Rp.ground (H0 := H) (O0 := O) sr hrp)⟩
end
end DL

namespace DL
open PySem PySem.Spec L2
/-- what the written part says of an error's class, for a suite -/
structure ExK (K : PySem.W.Frag) (C : Addr) : Prop where
  cl : (PySem.W.clsIn K C).isSome = true
  ga : PySem.W.findIn K (.ref C) "__getattribute__" = some (some (.builtin "BaseException.__getattribute__"))
  gg : PySem.W.findIn K (.ref C) "__getattr__" = some none
  ex : PySem.W.subIn K (.ref C) (.type "BaseException") = some true
  hd : PySem.W.hasDictIn K C = true
  ca : PySem.W.findIn K (.ref C) "__class__" = some (some (.builtin "object.__class__"))
  sp : PySem.W.specialIn K (.builtin "object.__class__") "__get__" = some (some (.builtin "getset_descriptor.__get__"))
  tk : PySem.W.takesIn K (.builtin "object.__class__") = some true
  mo : PySem.W.mroIn K C (.type "object") = some true
  na : PySem.W.findIn K (.ref C) "at" = some none
theorem ExK.xf {K : PySem.W.Frag} {C : Addr} (h : ExK K C) : XfC K C := ⟨h.ga, h.gg, h.ex, h.hd⟩
section
variable {X : Cx} {M : List Md} {pos : Pos}
/-- isinstance(e, c), e the caught error -/
def rIsD (K : PySem.W.Frag) (C a dd : Addr) : List V → Hp → VK → Prop := fun xs H Q => ∃ (C2 : Addr) (b : Bool) (fs : List (Str × V)), xs = [.ref a, .ref C2] ∧ PySem.W.kitOne K (.ref C) (.ref C2) = some b ∧ H dd = some (.xd fs) ∧ Q (.bl b) H
theorem call_isD {a C dd : Addr} {oe : Obj} {pn : List (Addr × Obj)} (T : ExK X.K C) (hz : Zc (.ref C) (some dd) oe) (hf : ∃ vs, oe.data = .fields vs) : CallR (X.suite a ((a, oe) :: pn)) (.builtin "isinstance") (rIsD X.K C a dd) := by
  intro pins s σ H xs us Q I r h
  obtain ⟨C2, b, fs, rfl, e, hxd, q⟩ := h
  obtain ⟨u1, u2, rfl, r1, r2⟩ := vals2 r
  cases r1
  cases r2
  obtain ⟨hget, _⟩ := I.pin (a, oe) (List.mem_append_left _ List.mem_cons_self)
  have hx : ObjOk X.prog X.w H s.heap dd (.xd fs) := I.hok dd _ hxd
  obtain ⟨mA, hns, _⟩ := hx
  obtain ⟨od, _, _, ho, _⟩ := id hns
  have J : PySem.W.InstAt s.heap a oe C (some od) := by
    obtain ⟨vs, hv⟩ := hf
    refine ⟨hget, hz.1, ?_, ?_⟩
    · unfold PySem.W.notCls
      rw [hv] <;> rfl
    · rw [hz.2]; exact ho
  exact PySem.W.kia_one (PySem.W.kitx_exc (od := some od) T.cl T.ga T.gg T.ex T.ca T.sp T.tk T.mo) I.kIn J e (fun z => nomatch z) fun tk => ⟨.bl b, H, I.tok tk, rfl, q⟩
theorem de_isE {a C C2 dd : Addr} {oe : Obj} {pn : List (Addr × Obj)} {i : Nat} {dat : D} {cls : Value} {n x2 : Str} {mg : Str → Option Value} {W : WX} {p p2 p3 : Pos} {b : Bool} (T : ExK X.K C) (hz : Zc cls (some dd) oe) (hf : ∃ vs, oe.data = .fields vs) (hcl : cls = .ref C)
    (hk : PySem.W.kitOne X.K (.ref C) (.ref C2) = some b) (he : PE (X.suite a ((a, oe) :: pn)) (.Name n p2) (tVar i)) (hm : M[i]? = some (.ex a))
    (hg : Gl (X.suite a ((a, oe) :: pn)) "isinstance") (hmi : X.mg "isinstance" = none) (hg2 : Gl (X.suite a ((a, oe) :: pn)) x2) (hm2 : X.mg x2 = some (.ref C2))
    (hs : starEach [.Name n p2, .Name x2 p3] X.env = [(false, eval (.Name n p2) X.env), (false, eval (.Name x2 p3) X.env)] := by rfl) (hs2 : starEach [.Name x2 p3] X.env = [(false, eval (.Name x2 p3) X.env)] := by rfl) (hdb : (x2 == ("__debug__" : Str)) = false := by decide) :
    DE (X.suite a ((a, oe) :: pn)) ⟨W, mg, some (dd, dat)⟩ M .pl (.Call (.Name "isinstance" p) [.Name n p2, .Name x2 p3] [] pos) (mC (.bool b)) := by
  subst hcl
  have hp : PE (X.suite a ((a, oe) :: pn)) (.Name x2 p3) (tC (.ref C2)) := pe_glob hg2 hm2 rfl hdb
  refine pe_imp (pe_callB (call_isD T hz hf) hg hmi bt_isinstance (pa_cons he (pa_cons hp pa_nil hs2) (by show starEach [.Name n p2, .Name x2 p3] X.env = _; rw [hs]; show _ = _ :: starEach [.Name x2 p3] X.env; rw [hs2]) )
    (he := by show starEach [.Name n p2, .Name x2 p3] X.env = _; rw [hs]; show _ = _ :: starEach [.Name x2 p3] X.env; rw [hs2]) (hpl := by show (backTo pos (starEach [.Name x2 p3] X.env)).any _ = _; rw [hs2]; rfl)) fun σ H Q ⟨g, O, env, sr, q⟩ => ?_
  obtain ⟨va, hxd, hrp⟩ := g.hex _ rfl
  exact ⟨_, sr.exs i a hm, C2, b, _, rfl, hk, sr.same _ _ hxd, q H _ (Same.refl H) (.bl b)⟩
/-- which class an except clause takes -/
theorem exm_of {K : PySem.W.Frag} {C D : Addr} {b : Bool} (h1 : PySem.W.subIn K (.ref C) (.type "BaseException") = some true) (hd : PySem.W.hasDictIn K C = true) (ht : PySem.W.typeIn K (.ref C) = some (.type "type")) (h4 : PySem.W.subIn K (.ref D) (.ref C) = some b) :
    PySem.W.exmOne K (.ref D) (.ref C) = some b := PySem.W.exm_ref h1 hd ht h4
end
end DL

namespace DL
open PySem PySem.Spec L2
theorem hr66 {k : Nat} {A : Around} (hr : Room k A) : A.units + 66 < cLine := by have := hr.un; omega
/-! ### repr, where nothing is being shown -/
def reprOk (d : D) : Bool := PyData.canLay0 d && PyData.showable d && decide (d.depth ≤ 64) && decide (d.shown.length ≤ sizeLine)
def reprD : List D → Option D
  | [d] => if reprOk d = true then some (.str d.shown) else none
  | _ => none
section
variable {X : Cx} {G : Gd} {L : Lp} {M : List Md} {k : Kd} {e : Expr} {m : Env' → Res D} {ms : Env' → Res (List D)} {pos : Pos}
def rRepr (K : PySem.W.Frag) : List V → Hp → VK → Prop := fun xs H Q => ∃ (v : V) (d : D), xs = [v] ∧ Dp K H v d ∧ reprOk d = true ∧ Q (.str d.shown) H
theorem call_reprD (hg : X.A.guards = some []) (hu : X.A.units + 66 < cLine) : CallR X (.builtin "repr") (rRepr X.K) := by
  intro pins s σ H xs us Q I r h
  obtain ⟨v, d, rfl, hd, hk, q⟩ := h
  obtain ⟨u, rfl, ru⟩ := vals1 r
  unfold reprOk at hk
  simp only [Bool.and_eq_true, decide_eq_true_eq] at hk
  obtain ⟨⟨⟨h1, h2⟩, h3⟩, h4⟩ := hk
  cases hd with
  | non => cases ru; exact PySem.P.repr_of_none ⟨.str _, H, I.tok _, ⟨_, rfl⟩, q⟩
  | bl b => cases ru; exact PySem.P.repr_of_bool ⟨.str _, H, I.tok _, ⟨_, rfl⟩, q⟩
  | int i =>
    obtain ⟨t, rfl⟩ := ru
    exact PySem.P.repr_of_int (by simpa [PyData.showable] using h2) ⟨.str _, H, I.tok _, ⟨_, rfl⟩, q⟩
  | str x =>
    obtain ⟨t, rfl⟩ := ru
    exact PySem.P.repr_of_str ⟨.str _, H, I.tok _, ⟨_, rfl⟩, q⟩ h4
  | @lst a xs ds hs ha =>
    obtain ⟨as, rd⟩ := Dp.reads I (.list ds) (.ref a) u (.lst hs ha) ru
    cases ru
    exact PySem.repr_of_reads' rd h2 (PyData.noDict_hsm (PyData.hasDict_of_canLay _ h1)) hg (by omega) (fun _ _ e => e) (fun h' u tk hk => ⟨.str _, H, I.kept (t' := tk) hk, ⟨_, rfl⟩, q⟩) h4
  | @tup a xs ds hs ha =>
    obtain ⟨as, rd⟩ := Dp.reads I (.tuple ds) (.ref a) u (.tup hs ha) ru
    cases ru
    exact PySem.repr_of_reads' rd h2 (PyData.noDict_hsm (PyData.hasDict_of_canLay _ h1)) hg (by omega) (fun _ _ e => e) (fun h' u tk hk => ⟨.str _, H, I.kept (t' := tk) hk, ⟨_, rfl⟩, q⟩) h4
theorem cb_repr {K : PySem.W.Frag} : CB .pl .co (rRepr K) reprD := by
  intro H O vs ds d Q tr r hf q
  unfold reprD at hf
  split at hf
  · rename_i x
    by_cases hk : reprOk x = true
    · rw [if_pos hk] at hf
      cases hf
      obtain ⟨v, rfl, r1⟩ := RcA.one r
      have hk' := hk
      unfold reprOk at hk'
      simp only [Bool.and_eq_true] at hk'
      exact ⟨v, x, rfl, r1.dp hk'.1.1.1, hk, q H _ (Same.refl H) (.str _)⟩
    · rw [if_neg hk] at hf
      cases hf
  · cases hf
end

theorem kit_self {K : PySem.W.Frag} {C : Addr} : PySem.W.kitOne K (.ref C) (.ref C) = some true := by
  unfold PySem.W.kitOne
  simp
theorem kit_cls {K : PySem.W.Frag} {C D : Addr} {b : Bool} (hn : (Value.ref C == Value.ref D) = false) (ic : (PySem.W.clsIn K D).isSome = true) (ty : PySem.W.typeIn K (.ref D) = some (.type "type")) (h : PySem.W.subIn K (.ref C) (.ref D) = some b) : PySem.W.kitOne K (.ref C) (.ref D) = some b := by
  unfold PySem.W.kitOne PySem.W.kitCls
  rw [hn]
  simp [ic, ty, h]
theorem nolist_of {K : PySem.W.Frag} (h : (K.all fun p => !(p.2.cls == .type "list")) = true) {b : Addr} {ob : Obj} (e : K.lookup b = some ob) (z : ob.cls = .type "list") : False := by
  induction K with
  | nil => cases e
  | cons p K ih =>
    rw [List.all_cons, Bool.and_eq_true] at h
    obtain ⟨a, o⟩ := p
    rw [List.lookup_cons] at e
    split at e
    · cases e
      have h1 := h.1
      simp [z] at h1
    · exact ih h.2 e
/-! ### the law's own call -/
theorem rpA_ints (H : Hp) (O : AS) : ∀ ns : List Int, RpA H O (ns.map .int) (ns.map V.int)
  | [] => .nil
  | n :: ns => .cons (.int n) (rpA_ints H O ns)
theorem attach_go {P : Program} {w : World} {K : PySem.W.Frag} {mg mb : Str → Option Value} {fa a : Addr} {fd : FuncData} {qual : Str} {st : Stmt} {N : List Str} {s₁ : Shared} {vs : List Value} {ns : List Int} {M1 : List Md} {o : Env' → Out}
    (nolist : ∀ b ob, K.lookup b = some ob → ob.cls ≠ .type "list") (F : Fun K "law" qual st fa fd) (S : FnScope N ["script"] (defScope st)) (hN : 1 ≤ N.length)
    (hbind : ∀ (s : Shared) (u : Value), BindsTo s fd ⟨[u], []⟩ [("script", u)])
    (hbody : ∀ (base : Heap) (cdv : Value) (s : Shared) (H : Hp), K.In base → base.Ns mainGlobals mg →
      DSs (cxOf (L2.CX P w) P w K mg base N qual (defScope st) fa cdv callerA [] s H fun _ _ _ => False) ⟨wE fun _ _ _ => False, mg, none⟩ ⟨[], [], .pl⟩ (mode0 N.length 1) M1 (defBody st) o)
    (hval : runD .pl N.length o [.list (ns.map .int)] = .ok (.bool true))
    (KX : K.In s₁.heap) (hns : s₁.heap.Ns mainGlobals mg) (hb : s₁.heap.Ns builtinsNs mb) (hbb : ∀ x : Str, x ≠ "__name__" → mb x = bootBuiltins x) (hlim : s₁.heap.NoLimit) (hg : s₁.gens = #[])
    (ha : s₁.heap.get? a = some { cls := .type "list", data := .seq vs.toArray }) (hi : PyProof.Rows.IntsAre vs ns) (hl : ns.length ≤ sizeLine) :
    codeAny (model P w) callerA (.call (.ref fa) ⟨[.ref a], []⟩) (fun r s' => r = .ok (.ret (.bool true)) ∧ OldK s₁.heap s'.heap ∧ s'.os = s₁.os ∧ PyProof.Rows.AllBare s'.gens) s₁ := by
  -- what is tracked: the script alone, locked
  let so : Obj := { cls := .type "list", data := .seq vs.toArray }
  let H : Hp := fun b => if b = a then some (.frz so (.lst (ns.map V.int))) else none
  have hHa : H a = some (.frz so (.lst (ns.map V.int))) := if_pos rfl
  have hHo : ∀ b, b ≠ a → H b = none := fun b hb => if_neg hb
  have hKa : K.lookup a = none := by
    cases e : K.lookup a with
    | none => rfl
    | some ob =>
      have e1 := KX a ob e
      rw [ha] at e1
      have e2 : so = ob := Option.some.inj e1
      exact absurd (by rw [← e2]) (nolist a ob e)
  have hrv : Vals (ns.map V.int) vs := L2.vals_ints hi
  have hz : (ns.map V.int).length ≤ sizeLine := by rw [List.length_map]; exact hl
  have hok : HOk P w H s₁.heap := fun b u e => by
    by_cases hb : b = a
    · subst hb
      rw [hHa] at e
      cases e
      exact ⟨ha, hz, vs, _, hrv, ha⟩
    · rw [hHo b hb] at e
      cases e
  -- the ground: all else
  have toB : ∀ {b : Addr} {ob : Obj}, b ≠ a → s₁.heap.get? b = some ob → (hidT s₁.heap H).get? b = some ob := fun {b ob} hb e => hidT_get e (hHo b hb)
  have dictB : ∀ {b : Addr} {mm : Str → Option Value}, s₁.heap.Ns b mm → (hidT s₁.heap H).Ns b mm := fun {b mm} ⟨ob, es, ep, e, hd, rest⟩ => by
    refine ⟨ob, es, ep, toB (fun hb => ?_) e, hd, rest⟩
    subst hb
    rw [ha] at e
    have e2 : so = ob := Option.some.inj e
    subst e2
    cases hd
  have hKb : K.In (hidT s₁.heap H) := fun b ob e => toB (fun hb => by subst hb; rw [hKa] at e; cases e) (KX b ob e)
  have hM : L2.Mod K mg (hidT s₁.heap H) := ⟨hKb, dictB hns, ⟨mb, dictB hb, hbb⟩, by
    obtain ⟨mc, l1, l2⟩ := hlim
    exact ⟨mc, dictB l1, l2⟩⟩
  have e0 : Env0 P w K mg (hidT s₁.heap H) callerA [] s₁ H :=
    { frames := rfl, mod := hM, bs := fun b ob e => of_hidT e, bsz := Nat.le_of_eq (hidT_size _ _), funs := trivial, frf := (fun b z => nomatch z), hok := hok, bare := .of_eq hg }
  obtain ⟨oc, od, kV, doc, pm, an, cdv, ct, osl, rfl, lk, hcode⟩ := F.ex
  have kinds : ∀ y ∈ [("script" : Str)].zip [Value.ref a], (defScope st).names.lookup y.1 = some .local ∨ ((defScope st).names.lookup y.1 = some .cell ∧ ((cellsFrom (s₁.heap.objs.size + 1) (defScope st).names []).lookup y.1).isSome = true) := fun y hy => by
    have hy1 : y.1 ∈ [("script" : Str)] := (List.of_mem_zip (a := y.1) (b := y.2) hy).1
    exact (S.par y.1 hy1).imp id fun q => ⟨q, PySem.W.cellsFrom_some _ _ _ (.inl q)⟩
  refine codeAny_call_function (by decide) (KX _ _ lk) rfl S.co S.gen rfl (PySem.W.codeRec_of KX hcode) (hbind s₁ (.ref a) _ _ _ _ ?_)
  refine wpAny_newFunctionEnv_cells S.kind kinds fun env henv s1 inc => ?_
  subst henv
  refine ⟨hlim.keeps inc.toInCall.keep, codeAny_func ?_⟩
  have I := inv_start (CX := L2.CX P w) (E := fun _ _ _ => False) S (rfl : callerA.handled = none) e0 (rfl : [V.ref a].length = 1) (.cons rfl .nil) inc
  have rs : RpA H (fun _ => False) [.list (ns.map .int)] [.ref a] := by
    exact .cons (.lst (fun z => z) (.inr ⟨so, hHa⟩) (rpA_ints _ _ ns)) .nil
  have hq := start_ok (mg := mg) (N := N) (np := 1) (kr := .pl) (M1 := M1) (o := o) (vs := [.ref a]) (H := H) (Q := fun v _ => v = .bl true) (E := fun _ _ _ => False) (O := fun _ => False) rfl (fun _ z => nomatch z) rs (by rw [hval]; exact fun H' v _ r => by cases (show Rp H' _ (.bool true) v from r); rfl)
  refine wpAny_mono ((hbody _ cdv s₁ H hKb (dictB hns)).run [] s1 _ H _ I hq) (fun fl s' hs => ?_) fun e s' hs => ?_
  · have fin : ∀ {σ' : L2.St} {H' : Hp}, Inv (cxOf (L2.CX P w) P w K mg (hidT s₁.heap H) N qual (defScope st) fa cdv callerA [] s₁ H fun _ _ _ => False) [] σ' H' s' → OldK s₁.heap s'.heap ∧ s'.os = s₁.os ∧ PyProof.Rows.AllBare s'.gens := fun {σ' H'} J => by
      refine ⟨OldK.of_keep fun b ob e => ?_, J.os, J.bare⟩
      by_cases hb : b = a
      · subst hb
        obtain ⟨e1, _⟩ := hok b _ hHa
        obtain ⟨e2, _⟩ := J.hok b _ (J.base.frzs b _ _ hHa)
        rw [e] at e1
        cases e1
        exact e2
      · exact J.base.keep b ob e (hHo b hb) (fun z => nomatch z) fun z => nomatch z
    cases fl with
    | ret u =>
      obtain ⟨v, σ', H', J, rv, hv⟩ := hs
      have hv : v = .bl true := hv
      subst hv
      cases rv
      exact ⟨rfl, fin J⟩
    | next =>
      obtain ⟨σ', H', J, hv⟩ := hs
      exact nomatch (show V.non = V.bl true from hv)
    | brk => obtain ⟨_, _, _, hv⟩ := hs; exact hv.elim
    | cont => obtain ⟨_, _, _, hv⟩ := hs; exact hv.elim
  · have noexc : ∀ {e' : Value} {s'' : Shared}, ¬ L2.CX P w [] H s₁ (fun _ _ _ => False) e' s'' := fun {e' s''} z => by
      obtain ⟨_, _, _, _, _, _, _, _, _, _, _, _, q⟩ := z
      exact q
    exact wpAny_mono hs (fun _ _ z => (noexc z).elim) fun _ _ z => (noexc z).elim
/-- the goal that k_head leaves, for the law's own def -/
theorem walkG {l : PySem.W.OpenLaw} {n : Nat} {q : Program} {loose : List Str} {XP : (Str → Option Value) → Heap → Prop} {YP : World → Heap → Prop} {d : DefRec} {K : Params → PySem.W.Frag} {qual : Str} {st : Stmt} {N : List Str} {M1 : List Md} {o : Env' → Out}
    (hn : l.most = some n) (hn2 : n ≤ sizeLine) (hdf : d.params.defaults = []) (hY : ∀ (w : World) (h : Heap), YP w h → (K w.params).In h) (S : FnScope N ["script"] (defScope st)) (hN : 1 ≤ N.length)
    (F : ∀ (w : World) (mg : Str → Option Value) (fa : Addr) (h : Heap), (K w.params).In h → h.Ns mainGlobals mg → mg d.name = some (.ref fa) →
      (∀ b ob, (K w.params).lookup b = some ob → ob.cls ≠ .type "list") ∧ ∃ fd : FuncData, Fun (K w.params) "law" qual st fa fd ∧ (∀ (s : Shared) (u : Value), BindsTo s fd ⟨[u], []⟩ [("script", u)]) ∧
        ∀ (base : Heap) (cdv : Value) (s : Shared) (H : Hp), (K w.params).In base → base.Ns mainGlobals mg →
          DSs (cxOf (L2.CX l.prog w) l.prog w (K w.params) mg base N qual (defScope st) fa cdv callerA [] s H fun _ _ _ => False) ⟨wE fun _ _ _ => False, mg, none⟩ ⟨[], [], .pl⟩ (mode0 N.length 1) M1 (defBody st) o)
    (hval : ∀ ns : List Int, ns.length ≤ n → runD .pl N.length o [.list (ns.map .int)] = .ok (.bool true)) :
    PySem.W.WalkO q loose XP YP l.row.toRowW d [] (fun f vs => PySem.call f vs) := by
  refine Att.attach_call hn hdf fun w s₀ s₁ mg mb fa ob pm cd doc a vs ns G Y _ _ _ hmg hobj hints hlen hg => ?_
  have KX := hY w _ Y
  obtain ⟨nolist, fd, F1, hb, body⟩ := F w mg fa _ KX G.T.g hmg
  exact attach_go nolist F1 S hN hb body (hval ns hlen) KX G.T.g G.T.b G.T.builtins G.T.nolimit hg hobj hints (Nat.le_trans hlen hn2)
end DL

namespace DL
open PySem PySem.Spec L2

/-! ### loops over data -/
/-- how a loop ends ahead of its last turn -/
def Out.stops : Out → Prop
  | .nx _ => False
  | .ct _ => False
  | .bk _ => False
  | _ => True
theorem loop_gen {f : D → Env' → Option Env'} {body : Env' → Out} (P : Nat → Env' → Prop) (Q : Out → Prop) : ∀ (ds : List D) (i0 : Nat) (env : Env'),
    (∀ i d e, ds[i]? = some d → P (i0 + i) e → ∃ e1, f d e = some e1 ∧ ((∃ e2, body e1 = .nx e2 ∧ P (i0 + i + 1) e2) ∨ ((body e1).stops ∧ Q (body e1)))) → P i0 env →
    (∃ e, loop f body ds env = .nx e ∧ P (i0 + ds.length) e) ∨ Q (loop f body ds env)
  | [], i0, env, _, h => .inl ⟨env, rfl, h⟩
  | d :: ds, i0, env, hs, h => by
    obtain ⟨e1, h1, h2⟩ := hs 0 d env rfl h
    unfold loop
    rw [h1]
    simp only
    rcases h2 with ⟨e2, h2, h3⟩ | ⟨h2, h3⟩
    · rw [h2]
      simp only
      have := loop_gen P Q ds (i0 + 1) e2 (fun i d e hd he => by
        have := hs (i + 1) d e (by simpa using hd) (by rw [show i0 + (i + 1) = i0 + 1 + i by omega]; exact he)
        rw [show i0 + (i + 1) + 1 = i0 + 1 + i + 1 by omega] at this
        exact this) h3
      rw [show i0 + 1 + ds.length = i0 + (d :: ds).length by simp; omega] at this
      exact this
    · refine .inr ?_
      cases hb : body e1 <;> rw [hb] at h2 h3 <;> first | exact h2.elim | exact h3
/-- a loop that goes on to its end -/
theorem loop_all {f : D → Env' → Option Env'} {body : Env' → Out} (P : Nat → Env' → Prop) {ds : List D} {env : Env'}
    (hs : ∀ i d e, ds[i]? = some d → P i e → ∃ e1 e2, f d e = some e1 ∧ body e1 = .nx e2 ∧ P (i + 1) e2) (h : P 0 env) : ∃ e, loop f body ds env = .nx e ∧ P ds.length e := by
  rcases loop_gen P (fun _ => False) ds 0 env (fun i d e hd he => by
    rw [Nat.zero_add] at he ⊢
    obtain ⟨e1, e2, h1, h2, h3⟩ := hs i d e hd he
    exact ⟨e1, h1, .inl ⟨e2, h2, h3⟩⟩) h with h | h
  · rw [Nat.zero_add] at h; exact h
  · exact h.elim
/-- a while with a measure -/
theorem wloop_all {nc : Env' → Res Bool} {body : Env' → Out} (P : Nat → Env' → Prop) (hs : ∀ n e, P n e → (nc e = .ok false) ∨ (nc e = .ok true ∧ ∃ e2 k, body e = .nx e2 ∧ k < n ∧ P k e2)) :
    ∀ (n fuel : Nat) (env : Env'), n < fuel → P n env → ∃ e k, wloop nc body fuel env = .nx e ∧ nc e = .ok false ∧ P k e ∧ k ≤ n := by
  intro n
  induction n using Nat.strongRecOn with
  | _ n ih =>
    intro fuel env hf h
    obtain ⟨fuel, rfl⟩ : ∃ m, fuel = m + 1 := ⟨fuel - 1, by omega⟩
    unfold wloop
    rcases hs n env h with h1 | ⟨h1, e2, k, h2, h3, h4⟩
    · rw [h1]
      simp only [exOut_ok, Bool.false_eq_true, if_false]
      exact ⟨env, n, rfl, h1, h, Nat.le_refl _⟩
    · rw [h1]
      simp only [exOut_ok, if_true, h2]
      obtain ⟨e, k', q1, q2, q3, q4⟩ := ih k h3 fuel e2 (by omega) h4
      exact ⟨e, k', q1, q2, q3, by omega⟩
/-- a search over 0 .. n - 1 -/
theorem loop_find {v n : Nat} {body : Env' → Out} {env : Env'} (p : Nat → Bool) (r : Nat → D) (hb : ∀ k, k < n → body (env.set v (some (.int (k : Int)))) = if p k = true then .rt (r k) else .nx (env.set v (some (.int (k : Int))))) :
    (∃ k, (List.range n).find? p = some k ∧ loop (gN v) body (rng 0 n) env = .rt (r k)) ∨ ((List.range n).find? p = none ∧ ∃ e, loop (gN v) body (rng 0 n) env = .nx e ∧ (e = env ∨ ∃ j, e = env.set v (some j))) := by
  have key : ∀ (ks : List Nat), (∀ k ∈ ks, k < n) → ∀ e, (e = env ∨ ∃ j, e = env.set v (some j)) →
      (∃ k, ks.find? p = some k ∧ loop (gN v) body (ks.map fun (i : Nat) => PyData.int (0 + (i : Int))) e = .rt (r k)) ∨ (ks.find? p = none ∧ ∃ e', loop (gN v) body (ks.map fun (i : Nat) => PyData.int (0 + (i : Int))) e = .nx e' ∧ (e' = env ∨ ∃ j, e' = env.set v (some j))) := by
    intro ks
    induction ks with
    | nil => intro _ e he; exact .inr ⟨rfl, e, rfl, he⟩
    | cons k ks ih =>
      intro hk e he
      have e1 : e.set v (some (.int (0 + (k : Int)))) = env.set v (some (.int (k : Int))) := by
        rw [Int.zero_add]
        rcases he with rfl | ⟨j, rfl⟩
        · rfl
        · rw [List.set_set]
      have e2 := hb k (hk k (by simp))
      simp only [List.map_cons, loop, gN]
      rw [e1, e2]
      by_cases hp : p k = true
      · rw [if_pos hp]
        exact .inl ⟨k, by simp [hp], rfl⟩
      · rw [if_neg hp]
        have hp' : p k = false := by simpa using hp
        rcases ih (fun q hq => hk q (by simp [hq])) _ (.inr ⟨_, rfl⟩) with ⟨q, h1, h2⟩ | ⟨h1, h2⟩
        · exact .inl ⟨q, by simp [hp', h1], h2⟩
        · refine .inr ⟨?_, h2⟩
          rw [List.find?_cons, hp']
          exact h1
  exact key (List.range n) (fun k h => by simpa using h) env (.inl rfl)
/-- a comprehension over one name -/
theorem lc_map {v : Nat} {m : Env' → Res D} {nc : Env' → Res Bool} {env : Env'} (p : D → Bool) (g : D → D) : ∀ {ds : List D}, (∀ d ∈ ds, nc (env.set v (some d)) = .ok (p d) ∧ (p d = true → m (env.set v (some d)) = .ok (g d))) →
    lcG (gN v) nc m ds env = .ok ((ds.filter p).map g)
  | [], _ => rfl
  | d :: ds, h => by
    obtain ⟨h1, h2⟩ := h d (by simp)
    have ih := lc_map p g (ds := ds) fun z hz => h z (by simp [hz])
    simp only [lcG, gN]
    rw [h1]
    simp only [noX, Res.bind_ok]
    cases hp : p d with
    | false => simp only [Bool.false_eq_true, if_false]; rw [ih, List.filter_cons, hp]; simp
    | true =>
      rw [h2 hp]
      simp only [if_true, noX, Res.bind_ok]
      rw [ih, List.filter_cons, hp]
      simp
theorem lc_all {v : Nat} {m : Env' → Res D} {env : Env'} (g : D → D) {ds : List D} (h : ∀ d ∈ ds, m (env.set v (some d)) = .ok (g d)) : lcG (gN v) bYes m ds env = .ok (ds.map g) := by
  have := lc_map (v := v) (m := m) (nc := bYes) (env := env) (fun _ => true) g (ds := ds) fun d hd => ⟨rfl, fun _ => h d hd⟩
  rw [List.filter_eq_self.mpr (fun _ _ => rfl)] at this
  exact this
/-! ### places -/
theorem ix_nat {ds : List D} {n : Nat} {d : D} (h : ds[n]? = some d) : ixD (.list ds) (.int (n : Int)) = some d := by
  have hn : n < ds.length := (List.getElem?_eq_some_iff.mp h).1
  have h2 : (n : Int) < ds.length := by omega
  simp [ixD, L2.atI, ixN, h2, h]
theorem ix_int {ds : List D} {i : Int} {n : Nat} {d : D} (hi : i = n) (h : ds[n]? = some d) : ixD (.list ds) (.int i) = some d := by rw [hi]; exact ix_nat h
theorem ix_tup {ds : List D} {n : Nat} {d : D} (h : ds[n]? = some d) : ixD (.tuple ds) (.int (n : Int)) = some d := by
  have hn : n < ds.length := (List.getElem?_eq_some_iff.mp h).1
  have h2 : (n : Int) < ds.length := by omega
  simp [ixD, L2.atI, ixN, h2, h]
def txS (xs : List Nat) : Str := ⟨xs.toArray⟩
theorem txS_length (xs : List Nat) : (txS xs).length = xs.length := by simp [txS, Str.length]
theorem txS_append (xs ys : List Nat) : txS xs ++ txS ys = txS (xs ++ ys) := by
  show Str.append _ _ = _
  simp [txS, Str.append]
theorem txS_inj {xs ys : List Nat} (h : txS xs = txS ys) : xs = ys := by
  have : xs.toArray = ys.toArray := by injection h
  simpa using this
theorem ix_str {xs : List Nat} {n c : Nat} (hz : xs.length ≤ sizeLine) (h : xs[n]? = some c) : ixD (.str (txS xs)) (.int (n : Int)) = some (.str (txS [c])) := by
  have hn : n < xs.length := (List.getElem?_eq_some_iff.mp h).1
  have h2 : (n : Int) < xs.length := by omega
  simp only [ixD, txS_length, hz, if_true]
  simp [txS, L2.atI, ixN, h2, h]
/-! ### int lists -/
theorem rng_get (lo : Int) (n i : Nat) : (rng lo n)[i]? = if i < n then some (.int (lo + i)) else none := by
  unfold rng
  by_cases h : i < n <;> simp [h]
end DL

namespace DL
open PySem PySem.Spec L2
/-! ### what the mirrors are at an environment -/
section
variable {env : Env'} {i n : Nat} {d : D} {m ma mb mc : Env' → Res D} {ms ms' : Env' → Res (List D)} {nb nc : Env' → Res Bool} {ml mh : Env' → Res (Option Int)} {o o1 o2 : Env' → Out} {f f' : D → D → Option D}
theorem ap_var : mVar i env = match env[i]? with
  | some (some d) => .ok d
  | _ => .err := rfl
theorem ap_c : mC d env = .ok d := rfl
theorem ap_m1 {g : D → Option D} : m1 g ma env = (ma env).bind fun x => Res.of (g x) := rfl
theorem ap_m2 : m2 f ma mb env = (ma env).bind fun x => (mb env).bind fun y => Res.of (f x y) := rfl
theorem ap_m3 {g : D → Option Int → Option Int → Option D} : m3 g ma ml mh env = (ma env).bind fun x => (ml env).bind fun l => (mh env).bind fun h => Res.of (g x l h) := rfl
theorem ap_part : mPart ma env = (ma env).bind fun d => match d with
  | .int i => .ok (some i)
  | _ => .err := rfl
theorem ap_nopart : mNoPart env = .ok none := rfl
theorem ap_if : mIf nc ma mb env = (nc env).bind fun b => if b = true then ma env else mb env := rfl
theorem ap_isN : mIsN ma env = (ma env).bind fun x => .ok (.bool (isND x)) := rfl
theorem ap_notN : mNotN ma env = (ma env).bind fun x => .ok (.bool (!isND x)) := rfl
theorem ap_list : mList ms env = (ms env).bind fun ds => if ds.length ≤ sizeLine then .ok (.list ds) else .err := rfl
theorem ap_tup : mTup ms env = (ms env).bind fun ds => if ds.length ≤ sizeLine then .ok (.tuple ds) else .err := rfl
theorem ap_nil : aNil env = .ok [] := rfl
theorem ap_cons : aCons m ms env = (m env).bind fun d => (ms env).bind fun ds => .ok (d :: ds) := rfl
theorem ap_cb {g : List D → Option D} : mCB g ms env = (ms env).bind fun ds => Res.of (g ds) := rfl
theorem ap_m1m {ok : D → Bool} {g : D → List D → Option D} : mM1 ok g ma ms env = (ma env).bind fun x => if ok x = true then (ms env).bind fun ds => Res.of (g x ds) else .err := rfl
theorem ap_chain : mChain f f' ma mb mc env = (ma env).bind fun x => (mb env).bind fun y => (Res.of (f x y)).bind fun z => (asB z).bind fun k => if k = true then (mc env).bind fun w => Res.of (f' y w) else .ok (.bool false) := rfl
theorem ap_isi {T : String} : mIsi T m env = (m env).bind fun x => Res.of (isiD T x) := rfl
theorem ap_mB : mB m env = (m env).bind asB := rfl
theorem ap_asB {b : Bool} : asB (.bool b) = .ok b := rfl
theorem ap_and : bAnd nb nc env = (nb env).bind fun b => if b = true then nc env else .ok false := rfl
theorem ap_or : bOr nb nc env = (nb env).bind fun b => if b = true then .ok true else nc env := rfl
theorem ap_not : bNot nb env = (nb env).bind fun b => .ok (!b) := rfl
theorem ap_yes : bYes env = .ok true := rfl
theorem ap_call {mf : List D → Res D} : mCall mf ms env = (ms env).bind mf := rfl
theorem ap_lc {mi : Env' → Res (List D)} {g : D → Env' → Option Env'} {vs : List Nat} : mLc mi g nc m vs env = (mi env).bind fun ds => (noX (lcG g nc m ds (wipeE env vs))).bind fun ys => if ys.length ≤ sizeLine then .ok (.list ys) else .err := rfl
theorem ap_noX {α : Type} {a : α} : noX (.ok a) = .ok a := rfl
theorem ap_iseq : iSeq m env = (m env).bind walkD := rfl
theorem ap_irange : iRange ms env = (ms env).bind rangeD := rfl
theorem ap_iown : iOwn m env = (m env).bind fun d => match d with
  | .list ds => .ok ds
  | _ => .err := rfl
/-- on to the next -/
def Out.th (x : Out) (o : Env' → Out) : Out := match x with
  | .nx e => o e
  | x => x
theorem ap_seq : oSeq o1 o2 env = (o1 env).th o2 := rfl
theorem th_nx : (Out.nx env).th o = o env := rfl
theorem th_rt : (Out.rt d).th o = .rt d := rfl
theorem th_exc {c : Str} : (Out.exc c d env).th o = .exc c d env := rfl
theorem ap_skip : oSkip env = .nx env := rfl
theorem ap_set : oSet i m env = exOut (m env) env fun d => .nx (env.set i (some d)) := rfl
theorem ap_asg {g : D → Env' → Option Env'} : oAsg m g env = exOut (m env) env fun d => match g d env with
  | some e => .nx e
  | none => .err := rfl
theorem ap_aug : oAug i f m env = exOut (mVar i env) env fun x => exOut (m env) env fun y => match f x y with
  | some d => .nx (env.set i (some d))
  | none => .err := rfl
theorem ap_lm {fl : List D → List D → Option (List D)} : oLM i fl ms env = match env[i]? with
  | some (some (.list is)) => exOut (ms env) env fun ds => match fl is ds with
    | some js => .nx (env.set i (some (.list js)))
    | none => .err
  | _ => .err := rfl
theorem ap_put : oPut i ma m env = exOut (m env) env fun d => match env[i]? with
  | some (some (.list is)) => exOut (ma env) env fun j => match j with
    | .int j => match ixN is.length j with
      | some n => .nx (env.set i (some (.list (is.set n d))))
      | none => .err
    | _ => .err
  | _ => .err := rfl
theorem ap_oif : oIf nc o1 o2 env = exOut (nc env) env fun b => if b = true then o1 env else o2 env := rfl
theorem ap_ret : oRet m env = exOut (m env) env .rt := rfl
theorem ap_drop : oDrop m env = exOut (m env) env fun _ => .nx env := rfl
theorem ap_raise {c : Str} : oRaise c m env = exOut (m env) env fun d => .exc c d env := rfl
theorem ap_gN : gN i d env = some (env.set i (some d)) := rfl
theorem ap_gT {g : List D → Env' → Option Env'} {ds : List D} : gT' n g (.tuple ds) env = if ds.length = n then g ds env else none := rfl
theorem ap_gsN : gsN [] env = some env := rfl
theorem ap_gsC {g : D → Env' → Option Env'} {gs : List D → Env' → Option Env'} {ds : List D} : gsC g gs (d :: ds) env = (g d env).bind (gs ds) := rfl
theorem ap_app {is : List D} : lApp is [d] = if is.length < sizeLine then some (is ++ [d]) else none := rfl
theorem ap_for {mi : Env' → Res (List D)} {g : D → Env' → Option Env'} : oFor mi g o env = exOut (mi env) env fun ds => loop g o ds env := rfl
theorem sz_ge {n : Nat} (h : n ≤ 16777216) : n ≤ sizeLine := h
theorem sz_gt {n : Nat} (h : n < 16777216) : n < sizeLine := h
theorem run_rt {kr : Kd} {n : Nat} {ds : List D} (h : o (ds.map some ++ List.replicate (n - ds.length) none) = .rt d) : runD kr n o ds = .ok d := by
  unfold runD; rw [h]
theorem run_exc {kr : Kd} {n : Nat} {ds : List D} {c : Str} {e : Env'} (h : o (ds.map some ++ List.replicate (n - ds.length) none) = .exc c d e) : runD kr n o ds = .exc c d := by
  unfold runD; rw [h]
theorem run_nx {n : Nat} {ds : List D} {e : Env'} (h : o (ds.map some ++ List.replicate (n - ds.length) none) = .nx e) : runD .pl n o ds = .ok .none := by
  unfold runD; rw [h]
theorem seq_nx {e : Env'} {r : Out} (h1 : o1 env = .nx e) (h2 : o2 e = r) : oSeq o1 o2 env = r := by
  rw [ap_seq, h1]; exact h2
theorem seq_ex {e : Env'} {C : Out → Prop} (h1 : o1 env = .nx e) (h2 : ∃ x, o2 e = x ∧ C x) : ∃ x, oSeq o1 o2 env = x ∧ C x := by
  obtain ⟨x, h2, h3⟩ := h2
  exact ⟨x, seq_nx h1 h2, h3⟩
theorem for_ok {mi : Env' → Res (List D)} {g : D → Env' → Option Env'} {ds : List D} {r : Out} (h : mi env = .ok ds) (h2 : loop g o ds env = r) : oFor mi g o env = r := by
  rw [ap_for, h]; exact h2
theorem for_all {mi : Env' → Res (List D)} {g : D → Env' → Option Env'} (P : Nat → Env' → Prop) (ds : List D) (hi : mi env = .ok ds) (h0 : P 0 env)
    (hs : ∀ i d e, ds[i]? = some d → P i e → ∃ e1 e2, g d e = some e1 ∧ o e1 = .nx e2 ∧ P (i + 1) e2) : ∃ e, oFor mi g o env = .nx e ∧ P ds.length e := by
  obtain ⟨e, h1, h2⟩ := loop_all P hs h0
  exact ⟨e, for_ok hi h1, h2⟩
theorem seq_for {mi : Env' → Res (List D)} {g : D → Env' → Option Env'} {C : Out → Prop} (P : Nat → Env' → Prop) (ds : List D) (hi : mi env = .ok ds) (h0 : P 0 env)
    (hs : ∀ i d e, ds[i]? = some d → P i e → ∃ e1 e2, g d e = some e1 ∧ o e1 = .nx e2 ∧ P (i + 1) e2) (hk : ∀ e, P ds.length e → ∃ x, o2 e = x ∧ C x) : ∃ x, oSeq (oFor mi g o) o2 env = x ∧ C x := by
  obtain ⟨e, h1, h2⟩ := for_all P ds hi h0 hs
  exact seq_ex h1 (hk e h2)
theorem seq_while {C : Out → Prop} (P : Nat → Env' → Prop) (n : Nat) {fuel : Nat} (hf : n < fuel) (h0 : P n env) (hs : ∀ n e, P n e → (nc e = .ok false) ∨ (nc e = .ok true ∧ ∃ e2 k, o e = .nx e2 ∧ k < n ∧ P k e2))
    (hk : ∀ k e, P k e → nc e = .ok false → ∃ x, o2 e = x ∧ C x) : ∃ x, oSeq (wloop nc o fuel) o2 env = x ∧ C x := by
  obtain ⟨e, k, h1, h2, h3, _⟩ := wloop_all P hs n fuel env hf h0
  exact seq_ex h1 (hk k e h3 h2)
theorem seq_find {v n : Nat} {mi : Env' → Res (List D)} (p : Nat → Bool) (r : Nat → D) (hi : mi env = .ok (rng 0 n)) (hb : ∀ k, k < n → o (env.set v (some (.int (k : Int)))) = if p k = true then .rt (r k) else .nx (env.set v (some (.int (k : Int))))) :
    (∃ k, (List.range n).find? p = some k ∧ oSeq (oFor mi (gN v) o) o2 env = .rt (r k)) ∨ ((List.range n).find? p = none ∧ ∃ e, (e = env ∨ ∃ j, e = env.set v (some j)) ∧ oSeq (oFor mi (gN v) o) o2 env = o2 e) := by
  rcases loop_find p r hb with ⟨k, h1, h2⟩ | ⟨h1, e, h2, h3⟩
  · exact .inl ⟨k, h1, by rw [ap_seq, for_ok hi h2]; rfl⟩
  · exact .inr ⟨h1, e, h3, by rw [ap_seq, for_ok hi h2]; rfl⟩
end
theorem irange_ok {env : Env'} {ms : Env' → Res (List D)} {l ds : List D} (h : ms env = .ok l) (h2 : rangeD l = .ok ds) : iRange ms env = .ok ds := by
  rw [ap_irange, h]; exact h2
theorem ap_lenL {ds : List D} : lenD [.list ds] = some (.int ds.length) := rfl
theorem ap_lenT {ds : List D} : lenD [.tuple ds] = some (.int ds.length) := rfl
theorem ap_lenS {xs : List Nat} (h : xs.length ≤ sizeLine) : lenD [.str (txS xs)] = some (.int xs.length) := by
  have h' : (txS xs).length ≤ sizeLine := by rw [txS_length]; exact h
  show (if (txS xs).length ≤ sizeLine then some (PyData.int (txS xs).length) else none) = _
  rw [if_pos h', txS_length]
theorem range1 {n : Nat} (h : n < 4611686018427387904) : rangeD [.int (n : Int)] = .ok (rng 0 n) := by
  have : small62 (n : Int) := by unfold small62; omega
  simp [rangeD, this]
theorem cut_all {α : Type} (xs : List α) (k : Nat) (h : xs.length ≤ k) : cut xs none (some (k : Int)) = xs := by
  have e : ¬ ((k : Int) < 0) := by omega
  simp only [cut, HT.sIx, if_neg e, List.drop_zero, Int.toNat_natCast, Nat.sub_zero]
  rw [Nat.min_eq_right h, List.take_length]
theorem ix_str1 {x : Str} (s : String) {i : Int} {d : Option D} (h : ixD (.str (Str.ofString s)) (.int i) = d) : ixD (.str (s : String)) (.int i) = d := h
end DL

namespace DL
open PySem PySem.Spec L2
/-- data that is shown without trouble -/
structure Sm (w dp : Nat) (d : D) : Prop where
  lay : PyData.canLay0 d = true
  shw : PyData.showable d = true
  dep : PyData.depth d ≤ dp
  wei : PyData.weight d ≤ w
  shi : PyData.intsShort 13 d = true
theorem Sm.mono {w dp w' dp' : Nat} {d : D} (h : Sm w dp d) (h1 : w ≤ w') (h2 : dp ≤ dp') : Sm w' dp' d := ⟨h.lay, h.shw, Nat.le_trans h.dep h2, Nat.le_trans h.wei h1, h.shi⟩
theorem Sm.none : Sm 0 0 .none := ⟨by simp [PyData.canLay0], by simp [PyData.showable], by simp [PyData.depth], by simp [PyData.weight], by simp [PyData.intsShort]⟩
theorem Sm.bool {b : Bool} : Sm 0 0 (.bool b) := ⟨by simp [PyData.canLay0], by simp [PyData.showable], by simp [PyData.depth], by simp [PyData.weight], by simp [PyData.intsShort]⟩
theorem Sm.int {n : Nat} (h : n < 10000000000000) : Sm 64 0 (.int n) := by
  have hl : n.log2 < 44 := by
    by_cases hz : n = 0
    · subst hz; decide
    · exact (Nat.log2_lt hz).mpr (by omega)
  refine ⟨by simp [PyData.canLay0], ?_, by simp [PyData.depth], ?_, ?_⟩
  · simp [PyData.showable]; omega
  · simp only [PyData.weight]
    split
    · omega
    · rw [Int.natAbs_natCast]; omega
  · simp only [PyData.intsShort, PyData.shown]
    refine decide_eq_true ?_
    exact PyProof.Rows.toString_length_le (v := (n : Int)) (k := 13) (by omega) (by decide) (by omega)
theorem Sm.str {x : Str} (h : PyData.strOk x = true) : Sm x.length 0 (.str x) := ⟨by simpa [PyData.canLay0] using h, by simp [PyData.showable], by simp [PyData.depth], by simp [PyData.weight, Str.length], by simp [PyData.intsShort]⟩
theorem Sm.all {w dp : Nat} : ∀ {ds : List D}, (∀ d ∈ ds, Sm w dp d) → PyData.canLayAll0 ds = true ∧ PyData.showableAll ds = true ∧ PyData.depthAll ds ≤ dp ∧ PyData.weightAll ds ≤ (w + 1) * ds.length ∧ PyData.intsShortAll 13 ds = true
  | [], _ => ⟨by simp [PyData.canLayAll0], by simp [PyData.showableAll], by simp [PyData.depthAll], by simp [PyData.weightAll], by simp [PyData.intsShortAll]⟩
  | d :: ds, h => by
    obtain ⟨h1, h2, h3, h4, h5⟩ := Sm.all (ds := ds) fun z hz => h z (by simp [hz])
    have h0 := h d (by simp)
    refine ⟨by simp [PyData.canLayAll0, h1, h0.lay], by simp [PyData.showableAll, h2, h0.shw], ?_, ?_, by simp [PyData.intsShortAll, h5, h0.shi]⟩
    · simp only [PyData.depthAll]; have := h0.dep; omega
    · simp only [PyData.weightAll, List.length_cons, Nat.mul_add]
      have := h0.wei
      omega
theorem Sm.list {w dp : Nat} {ds : List D} (h : ∀ d ∈ ds, Sm w dp d) : Sm ((w + 1) * ds.length) (dp + 1) (.list ds) := by
  obtain ⟨h1, h2, h3, h4, h5⟩ := Sm.all h
  exact ⟨by simpa [PyData.canLay0] using h1, by simpa [PyData.showable] using h2, by simp only [PyData.depth]; omega, by simpa [PyData.weight] using h4, by simpa [PyData.intsShort] using h5⟩
theorem Sm.tuple {w dp : Nat} {ds : List D} (h : ∀ d ∈ ds, Sm w dp d) : Sm ((w + 1) * ds.length) (dp + 1) (.tuple ds) := by
  obtain ⟨h1, h2, h3, h4, h5⟩ := Sm.all h
  exact ⟨by simpa [PyData.canLay0] using h1, by simpa [PyData.showable] using h2, by simp only [PyData.depth]; omega, by simpa [PyData.weight] using h4, by simpa [PyData.intsShort] using h5⟩
theorem Sm.repr {w dp : Nat} {d : D} (h : Sm w dp d) (hw : w ≤ 1048576) (hd : dp ≤ 64) : reprD [d] = some (.str d.shown) := by
  have h1 := h.dep
  have h2 := h.wei
  have hl : PyData.layable0 d = true := by
    have : PyData.weight d ≤ 2 ^ 20 := by omega
    simp only [PyData.layable0, h.lay, Bool.true_and, Bool.and_eq_true, decide_eq_true_eq]
    exact ⟨by omega, this⟩
  have h3 := PyData.shown_fits_of_layable0 (B := 13) (by decide) (by decide) hl h.shi
  have : reprOk d = true := by
    simp only [reprOk, h.lay, h.shw, Bool.true_and, Bool.and_eq_true, decide_eq_true_eq]
    exact ⟨by omega, h3⟩
  simp only [reprD, this, if_true]
theorem Sm.shaped {w dp : Nat} {d : D} (h : Sm w dp d) (hd : dp ≤ 64) : SeqAt.shaped d = true := by
  have := h.dep
  simp only [SeqAt.shaped, h.lay, Bool.true_and, decide_eq_true_eq]
  omega
theorem strOk_low {xs : List Nat} (h : ∀ c ∈ xs, c < 128) : PyData.strOk (txS xs) = true := by
  simp only [PyData.strOk, txS, Array.all_eq_true_iff_forall_mem]
  intro c hc
  have := h c (by simpa using hc)
  simp
  omega
end DL

namespace K70
open PySem PySem.Spec L2 DL
def top (i : Nat) : Stmt := PySem.Challenge.pw_suffixhouse_k70_first_differences.main.body.getD i (.Pass ⟨0, 0, 0, 0⟩)
abbrev s_init : Stmt := inClass (top 1) 0
def n_init : List Str := ["self", "at"]
theorem sc_init : FnScope n_init n_init (defScope s_init) := ⟨rfl, rfl, rfl, by decide +kernel, rfl, by decide +kernel, by decide +kernel⟩
def h_HouseError (c : Str) : Option Bool := if c = "HouseError" then some true else if c = "OutOfRange" then some true else if c = "TooLong" then some true else none
def isub_OutOfRange (c : Str) : Bool := decide (c = "OutOfRange")
def isub_TooLong (c : Str) : Bool := decide (c = "TooLong")
def n_check_symbol : List Str := ["rules", "k"]
def p_check_symbol : List Str := ["rules", "k"]
abbrev s_check_symbol : Stmt := top 6
theorem sc_check_symbol : FnScope n_check_symbol p_check_symbol (defScope s_check_symbol) := ⟨rfl, rfl, rfl, by decide +kernel, rfl, by decide +kernel, by decide +kernel⟩
def o_check_symbol : Env' → Out := (oIf (bNot (mB (mChain leI ltI (mC (.int 0)) (mVar 1) (mCB lenD (aCons (m2 ixD (mVar 0) (mC (.int 0))) aNil))))) (oRaise "OutOfRange" (mVar 1)) oSkip)
def m_check_symbol : List D → Res D := runD .pl 2 o_check_symbol
def n_sizes : List Str := ["symbols", "found", "symbol"]
def p_sizes : List Str := ["symbols"]
abbrev s_sizes : Stmt := top 7
theorem sc_sizes : FnScope n_sizes p_sizes (defScope s_sizes) := ⟨rfl, rfl, rfl, by decide +kernel, rfl, by decide +kernel, by decide +kernel⟩
def o_sizes : Env' → Out := (oSeq (oSet 1 (mList aNil)) (oSeq (oFor (iSeq (mVar 0)) (gN 2) (oSeq (oLM 1 lApp (aCons (mIf (mB (m2 eqD (m2 ixD (mVar 2) (mC (.int 0))) (mC (.str "letter")))) (mC (.int 1)) (m2 addD (m2 ixD (mVar 1) (m2 ixD (mVar 2) (mC (.int 1)))) (m2 ixD (mVar 1) (m2 ixD (mVar 2) (mC (.int 2)))))) aNil)) oSkip)) (oRet (mVar 1))))
def m_sizes : List D → Res D := runD .fr 3 o_sizes
def n_letters_from : List Str := ["symbols", "found", "k", "start", "stop", "letters", "pile", "half", "_", "one", "two"]
def p_letters_from : List Str := ["symbols", "found", "k", "start", "stop"]
abbrev s_letters_from : Stmt := top 8
theorem sc_letters_from : FnScope n_letters_from p_letters_from (defScope s_letters_from) := ⟨rfl, rfl, rfl, by decide +kernel, rfl, by decide +kernel, by decide +kernel⟩
def o_letters_from : Env' → Out := (oSeq (oSet 5 (mC (.str ""))) (oSeq (oSet 6 (mList (aCons (mTup (aCons (mVar 2) (aCons (mVar 3) (aCons (mVar 4) aNil)))) aNil))) (oSeq (wloop (mB (m2 gtI (mCB lenD (aCons (mVar 6) aNil)) (mC (.int 0)))) (oSeq (oPop 6 (gT' 3 (gsC (gN 2) (gsC (gN 3) (gsC (gN 4) gsN))))) (oIf (bAnd (mB (m2 ltI (mVar 3) (mVar 4))) (mB (m2 eqD (m2 ixD (m2 ixD (mVar 0) (mVar 2)) (mC (.int 0))) (mC (.str "letter"))))) (oAug 5 augAdd (m2 ixD (m2 ixD (mVar 0) (mVar 2)) (mC (.int 1)))) (oIf (mB (m2 ltI (mVar 3) (mVar 4))) (oSeq (oAsg (m2 ixD (mVar 0) (mVar 2)) (gT' 3 (gsC (gN 8) (gsC (gN 9) (gsC (gN 10) gsN))))) (oSeq (oSet 7 (m2 ixD (mVar 1) (mVar 9))) (oSeq (oLM 6 lApp (aCons (mTup (aCons (mVar 10) (aCons (mCB maxD (aCons (mC (.int 0)) (aCons (m2 subD (mVar 3) (mVar 7)) aNil))) (aCons (mCB maxD (aCons (mC (.int 0)) (aCons (m2 subD (mVar 4) (mVar 7)) aNil))) aNil)))) aNil)) (oSeq (oLM 6 lApp (aCons (mTup (aCons (mVar 9) (aCons (mCB minD (aCons (mVar 3) (aCons (mVar 7) aNil))) (aCons (mCB minD (aCons (mVar 4) (aCons (mVar 7) aNil))) aNil)))) aNil)) oSkip)))) oSkip))) wfuel) (oRet (mVar 5)))))
def m_letters_from : List D → Res D := runD .pl 11 o_letters_from
def n_first_difference : List Str := ["rules", "one", "two", "symbols", "found", "k", "text", "other"]
def p_first_difference : List Str := ["rules", "one", "two"]
abbrev s_first_difference : Stmt := top 9
theorem sc_first_difference : FnScope n_first_difference p_first_difference (defScope s_first_difference) := ⟨rfl, rfl, rfl, by decide +kernel, rfl, by decide +kernel, by decide +kernel⟩
def o_first_difference : Env' → Out := (oSeq (oSet 3 (m2 ixD (mVar 0) (mC (.int 0)))) (oSeq (oSet 4 (mCall m_sizes (aCons (mVar 3) aNil))) (oSeq (oFor (iSeq (mTup (aCons (mVar 1) (aCons (mVar 2) aNil)))) (gN 5) (oSeq (oDrop (mCall m_check_symbol (aCons (mVar 0) (aCons (mVar 5) aNil)))) oSkip)) (oSeq (oFor (iSeq (mTup (aCons (mVar 1) (aCons (mVar 2) aNil)))) (gN 5) (oSeq (oIf (mB (m2 gtI (m2 ixD (mVar 4) (mVar 5)) (mC (.int (4000))))) (oRaise "TooLong" (m2 ixD (mVar 4) (mVar 5))) oSkip) oSkip)) (oSeq (oIf (mB (m2 eqD (mVar 1) (mVar 2))) (oRet (mC .none)) oSkip) (oSeq (oSet 6 (mCall m_letters_from (aCons (mVar 3) (aCons (mVar 4) (aCons (mVar 1) (aCons (mC (.int 0)) (aCons (m2 ixD (mVar 4) (mVar 1)) aNil))))))) (oSeq (oSet 7 (mCall m_letters_from (aCons (mVar 3) (aCons (mVar 4) (aCons (mVar 2) (aCons (mC (.int 0)) (aCons (m2 ixD (mVar 4) (mVar 2)) aNil))))))) (oSeq (oFor (iRange (aCons (mCB minD (aCons (mCB lenD (aCons (mVar 6) aNil)) (aCons (mCB lenD (aCons (mVar 7) aNil)) aNil))) aNil)) (gN 5) (oSeq (oIf (mB (m2 neD (m2 ixD (mVar 6) (mVar 5)) (m2 ixD (mVar 7) (mVar 5)))) (oRet (mVar 5)) oSkip) oSkip)) (oRet (mIf (mB (m2 eqD (mCB lenD (aCons (mVar 6) aNil)) (mCB lenD (aCons (mVar 7) aNil)))) (mC .none) (mCB minD (aCons (mCB lenD (aCons (mVar 6) aNil)) (aCons (mCB lenD (aCons (mVar 7) aNil)) aNil)))))))))))))
def m_first_difference : List D → Res D := runD .pl 8 o_first_difference
def n__law_numbers : List Str := ["script", "count", "rest", "mixed", "numbers", "k", "at", "cell"]
def p__law_numbers : List Str := ["script", "count"]
abbrev s__law_numbers : Stmt := top 11
theorem sc__law_numbers : FnScope n__law_numbers p__law_numbers (defScope s__law_numbers) := ⟨rfl, rfl, rfl, by decide +kernel, rfl, by decide +kernel, by decide +kernel⟩
def o__law_numbers : Env' → Out := (oSeq (oSet 2 (m2 catD (mLc (iSeq (m3 slD (mVar 0) mNoPart (mPart (mC (.int 63))))) (gN 7) bYes (mCB absD (aCons (mVar 7) aNil)) [7]) (mList (aCons (mC (.int 0)) aNil)))) (oSeq (oIf (mB (m2 gtI (mCB lenD (aCons (mVar 0) aNil)) (mC (.int 0)))) (oSet 2 (m3 slLD (mVar 2) mNoPart (mPart (m1 negD (mC (.int 1)))))) oSkip) (oSeq (oSet 3 (mLc (iOwn (mVar 2)) (gN 7) bYes (m2 modD (mCB intD (aCons (m2 addD (m2 mulG (mVar 7) (mC (.int 48271))) (mC (.int 11))) aNil)) (mC (.int 2147483647))) [7])) (oSeq (oSet 4 (mList aNil)) (oSeq (oFor (iRange (aCons (mVar 1) aNil)) (gN 5) (oSeq (oSet 6 (m2 modD (mCB intD (aCons (mVar 5) aNil)) (mCB lenD (aCons (mVar 2) aNil)))) (oSeq (oIf (mB (m2 geI (m2 ixD (mVar 2) (mVar 6)) (m2 powD (mC (.int 10)) (mC (.int 18))))) (oSeq (oLM 4 lApp (aCons (m2 modD (mCB intD (aCons (m2 ixD (mVar 2) (mVar 6)) aNil)) (mC (.int 65536))) aNil)) (oPut 2 (mVar 6) (m2 fdivD (m2 ixD (mVar 2) (mVar 6)) (mC (.int 65536))))) (oSeq (oPut 3 (mVar 6) (m2 modD (mCB intD (aCons (m2 addD (m2 addD (m2 mulG (m2 ixD (mVar 3) (mVar 6)) (mC (.int 16807))) (mC (.int 12345))) (m2 mulG (mC (.int 7919)) (mVar 5))) aNil)) (mC (.int 2147483647)))) (oLM 4 lApp (aCons (m2 modD (mCB intD (aCons (m2 addD (m2 ixD (mVar 2) (mVar 6)) (m2 fdivD (m2 ixD (mVar 3) (mVar 6)) (mC (.int 5)))) aNil)) (mC (.int 65536))) aNil)))) oSkip))) (oRet (mVar 4)))))))
def m__law_numbers : List D → Res D := runD .fr 8 o__law_numbers
def n__law_drawn : List Str := ["numbers", "at"]
def p__law_drawn : List Str := ["numbers", "at"]
abbrev s__law_drawn : Stmt := top 12
theorem sc__law_drawn : FnScope n__law_drawn p__law_drawn (defScope s__law_drawn) := ⟨rfl, rfl, rfl, by decide +kernel, rfl, by decide +kernel, by decide +kernel⟩
def o__law_drawn : Env' → Out := (oRet (m2 ixD (mVar 0) (m2 modD (mCB intD (aCons (mVar 1) aNil)) (mCB lenD (aCons (mVar 0) aNil)))))
def m__law_drawn : List D → Res D := runD .pl 2 o__law_drawn
def n__law_symbols : List Str := ["numbers", "at", "most", "symbols", "k", "drawn", "late", "one", "two", "letter"]
def p__law_symbols : List Str := ["numbers", "at", "most"]
abbrev s__law_symbols : Stmt := top 13
theorem sc__law_symbols : FnScope n__law_symbols p__law_symbols (defScope s__law_symbols) := ⟨rfl, rfl, rfl, by decide +kernel, rfl, by decide +kernel, by decide +kernel⟩
def o__law_symbols : Env' → Out := (oSeq (oSet 3 (mLc (iSeq (m2 ixD (mList (aCons (mC (.str "ab")) (aCons (mC (.str "abc")) (aCons (mC (.str "a")) (aCons (mC (.str "x ~")) aNil))))) (m2 modD (mCB intD (aCons (mCall m__law_drawn (aCons (mVar 0) (aCons (mVar 1) aNil))) aNil)) (mC (.int 4))))) (gN 9) bYes (mTup (aCons (mC (.str "letter")) (aCons (mVar 9) aNil))) [9])) (oSeq (oFor (iRange (aCons (m2 modD (mCB intD (aCons (mCall m__law_drawn (aCons (mVar 0) (aCons (m2 addD (mVar 1) (mC (.int 1))) aNil))) aNil)) (m2 addD (mVar 2) (mC (.int 1)))) aNil)) (gN 4) (oSeq (oSet 5 (mCall m__law_drawn (aCons (mVar 0) (aCons (m2 addD (m2 addD (mVar 1) (mC (.int 2))) (mVar 4)) aNil)))) (oSeq (oSet 6 (m2 modD (mCB intD (aCons (m2 fdivD (mVar 5) (mC (.int 7))) aNil)) (mC (.int 3)))) (oSeq (oSet 7 (m2 ixD (mList (aCons (m2 modD (mCB intD (aCons (m2 fdivD (mVar 5) (mC (.int 21))) aNil)) (mCB lenD (aCons (mVar 3) aNil))) (aCons (m2 subD (mCB lenD (aCons (mVar 3) aNil)) (mC (.int 1))) (aCons (mCB maxD (aCons (mC (.int 0)) (aCons (m2 subD (mCB lenD (aCons (mVar 3) aNil)) (mC (.int 2))) aNil))) aNil)))) (mVar 6))) (oSeq (oSet 8 (m2 ixD (mList (aCons (m2 modD (mCB intD (aCons (m2 fdivD (mVar 5) (mC (.int 999))) aNil)) (mCB lenD (aCons (mVar 3) aNil))) (aCons (m2 subD (mCB lenD (aCons (mVar 3) aNil)) (mC (.int 1))) (aCons (mCB maxD (aCons (mC (.int 0)) (aCons (m2 subD (m2 subD (mCB lenD (aCons (mVar 3) aNil)) (mC (.int 1))) (m2 modD (mCB intD (aCons (m2 fdivD (mVar 5) (mC (.int 999))) aNil)) (mC (.int 3)))) aNil))) aNil)))) (m2 modD (mCB intD (aCons (mVar 5) aNil)) (mC (.int 3))))) (oSeq (oIf (mB (m2 notInD (mTup (aCons (mC (.str "pair")) (aCons (mVar 7) (aCons (mVar 8) aNil)))) (mVar 3))) (oLM 3 lApp (aCons (mTup (aCons (mC (.str "pair")) (aCons (mVar 7) (aCons (mVar 8) aNil)))) aNil)) oSkip) oSkip)))))) (oRet (mVar 3))))
def m__law_symbols : List D → Res D := runD .fr 10 o__law_symbols
def n__law_roots : List Str := ["numbers", "at", "symbols", "roots", "k", "drawn"]
def p__law_roots : List Str := ["numbers", "at", "symbols"]
abbrev s__law_roots : Stmt := top 14
theorem sc__law_roots : FnScope n__law_roots p__law_roots (defScope s__law_roots) := ⟨rfl, rfl, rfl, by decide +kernel, rfl, by decide +kernel, by decide +kernel⟩
def o__law_roots : Env' → Out := (oSeq (oSet 3 (mList aNil)) (oSeq (oFor (iRange (aCons (m2 modD (mCB intD (aCons (mCall m__law_drawn (aCons (mVar 0) (aCons (mVar 1) aNil))) aNil)) (mC (.int 9))) aNil)) (gN 4) (oSeq (oSet 5 (mCall m__law_drawn (aCons (mVar 0) (aCons (m2 addD (m2 addD (mVar 1) (mC (.int 1))) (mVar 4)) aNil)))) (oSeq (oLM 3 lApp (aCons (m2 ixD (mList (aCons (m2 modD (mCB intD (aCons (m2 fdivD (mVar 5) (mC (.int 4))) aNil)) (mCB lenD (aCons (mVar 2) aNil))) (aCons (mC .none) aNil))) (mCB intD (aCons (m2 eqD (m2 modD (mCB intD (aCons (mVar 5) aNil)) (mC (.int 4))) (mC (.int 1))) aNil))) aNil)) oSkip))) (oRet (mVar 3))))
def m__law_roots : List D → Res D := runD .fr 6 o__law_roots
def n__law_sizes : List Str := ["symbols", "found", "symbol", "k"]
def p__law_sizes : List Str := ["symbols"]
abbrev s__law_sizes : Stmt := top 15
theorem sc__law_sizes : FnScope n__law_sizes p__law_sizes (defScope s__law_sizes) := ⟨rfl, rfl, rfl, by decide +kernel, rfl, by decide +kernel, by decide +kernel⟩
def o__law_sizes : Env' → Out := (oSeq (oSet 1 (mList aNil)) (oSeq (oFor (iSeq (mVar 0)) (gN 2) (oSeq (oLM 1 lApp (aCons (m2 ixD (mList (aCons (mC (.int 1)) (aCons (mCB sumD (aCons (mLc (iSeq (m3 slD (mVar 2) (mPart (mC (.int 1))) mNoPart)) (gN 3) (mB (mIsi "int" (mVar 3))) (m2 ixD (mVar 1) (mVar 3)) [3]) aNil)) aNil))) (mCB intD (aCons (m2 eqD (m2 ixD (mVar 2) (mC (.int 0))) (mC (.str "pair"))) aNil))) aNil)) oSkip)) (oRet (mVar 1))))
def m__law_sizes : List D → Res D := runD .fr 4 o__law_sizes
def n__law_texts : List Str := ["symbols", "most", "found", "sizes_v", "k", "text"]
def p__law_texts : List Str := ["symbols", "most"]
abbrev s__law_texts : Stmt := top 16
theorem sc__law_texts : FnScope n__law_texts p__law_texts (defScope s__law_texts) := ⟨rfl, rfl, rfl, by decide +kernel, rfl, by decide +kernel, by decide +kernel⟩
def o__law_texts : Env' → Out := (oSeq (oSet 2 (mList aNil)) (oSeq (oSet 3 (mCall m__law_sizes (aCons (mVar 0) aNil))) (oSeq (oFor (iRange (aCons (mCB lenD (aCons (mVar 0) aNil)) aNil)) (gN 4) (oSeq (oSet 5 (mC .none)) (oSeq (oIf (mB (m2 eqD (m2 ixD (m2 ixD (mVar 0) (mVar 4)) (mC (.int 0))) (mC (.str "letter")))) (oSet 5 (m2 ixD (m2 ixD (mVar 0) (mVar 4)) (mC (.int 1)))) (oIf (mB (m2 leI (m2 ixD (mVar 3) (mVar 4)) (mVar 1))) (oSet 5 (m2 addD (m2 ixD (mVar 2) (m2 ixD (m2 ixD (mVar 0) (mVar 4)) (mC (.int 1)))) (m2 ixD (mVar 2) (m2 ixD (m2 ixD (mVar 0) (mVar 4)) (mC (.int 2)))))) oSkip)) (oSeq (oLM 2 lApp (aCons (mVar 5) aNil)) oSkip)))) (oRet (mVar 2)))))
def m__law_texts : List D → Res D := runD .fr 6 o__law_texts
def n__law_due : List Str := ["one", "two", "k"]
def p__law_due : List Str := ["one", "two"]
abbrev s__law_due : Stmt := top 17
theorem sc__law_due : FnScope n__law_due p__law_due (defScope s__law_due) := ⟨rfl, rfl, rfl, by decide +kernel, rfl, by decide +kernel, by decide +kernel⟩
def o__law_due : Env' → Out := (oSeq (oFor (iRange (aCons (mCB minD (aCons (mCB lenD (aCons (mVar 0) aNil)) (aCons (mCB lenD (aCons (mVar 1) aNil)) aNil))) aNil)) (gN 2) (oSeq (oIf (mB (m2 neD (m2 ixD (mVar 0) (mVar 2)) (m2 ixD (mVar 1) (mVar 2)))) (oRet (mVar 2)) oSkip) oSkip)) (oRet (m2 ixD (mList (aCons (mC .none) (aCons (mCB minD (aCons (mCB lenD (aCons (mVar 0) aNil)) (aCons (mCB lenD (aCons (mVar 1) aNil)) aNil))) aNil))) (mCB intD (aCons (m2 neD (mCB lenD (aCons (mVar 0) aNil)) (mCB lenD (aCons (mVar 1) aNil))) aNil)))))
def m__law_due : List D → Res D := runD .pl 3 o__law_due
def n__law_told : List Str := ["rules", "one", "two", "e"]
def p__law_told : List Str := ["rules", "one", "two"]
abbrev s__law_told : Stmt := top 18
theorem sc__law_told : FnScope n__law_told p__law_told (defScope s__law_told) := ⟨rfl, rfl, rfl, by decide +kernel, rfl, by decide +kernel, by decide +kernel⟩
def o__law_told : Env' → Out := (oTry 3 h_HouseError (oRet (mCall m_first_difference (aCons (mVar 0) (aCons (mVar 1) (aCons (mVar 2) aNil))))) (fun cn dat => (oRet (mTup (aCons (m2 addD (m2 ixD (mList (aCons (mC (.str "")) (aCons (mC (.str "range")) aNil))) (mCB intD (aCons (mC (.bool (isub_OutOfRange cn))) aNil))) (m2 ixD (mList (aCons (mC (.str "")) (aCons (mC (.str "long")) aNil))) (mCB intD (aCons (mC (.bool (isub_TooLong cn))) aNil)))) (aCons (mC dat) aNil))))))
def m__law_told : List D → Res D := runD .pl 4 o__law_told
def n__law_chains : List Str := ["numbers", "size", "text", "at", "texts", "symbols", "roots", "k", "row", "spot", "symbol", "char"]
def p__law_chains : List Str := ["numbers"]
abbrev s__law_chains : Stmt := top 19
theorem sc__law_chains : FnScope n__law_chains p__law_chains (defScope s__law_chains) := ⟨rfl, rfl, rfl, by decide +kernel, rfl, by decide +kernel, by decide +kernel⟩
def o__law_chains : Env' → Out := (oSeq (oSet 1 (m2 addD (mC (.int 1)) (m2 modD (mCB intD (aCons (m2 ixD (mVar 0) (mC (.int 200))) aNil)) (mC (.int 40))))) (oSeq (oSet 2 (mM1 isStrD joinD (mC (.str "")) (aCons (mLc (iRange (aCons (mVar 1) aNil)) (gN 7) bYes (m2 ixD (mC (.str "ab")) (m2 modD (mCB intD (aCons (mCall m__law_drawn (aCons (mVar 0) (aCons (m2 addD (mC (.int 210)) (mVar 7)) aNil))) aNil)) (mC (.int 2)))) [7]) aNil))) (oSeq (oSet 3 (m2 modD (mCB intD (aCons (m2 ixD (mVar 0) (mC (.int 201))) aNil)) (mVar 1))) (oSeq (oSet 4 (mList (aCons (mVar 2) (aCons (mVar 2) (aCons (m2 addD (m2 addD (m3 slD (mVar 2) mNoPart (mPart (mVar 3))) (m2 ixD (mC (.str "ba")) (mCB intD (aCons (m2 eqD (m2 ixD (mVar 2) (mVar 3)) (mC (.str "b"))) aNil)))) (m3 slD (mVar 2) (mPart (m2 addD (mVar 3) (mC (.int 1)))) mNoPart)) (aCons (m3 slD (mVar 2) mNoPart (mPart (mVar 3))) aNil)))))) (oSeq (oSet 5 (mList (aCons (mTup (aCons (mC (.str "letter")) (aCons (mC (.str "a")) aNil))) (aCons (mTup (aCons (mC (.str "letter")) (aCons (mC (.str "b")) aNil))) aNil)))) (oSeq (oSet 6 (mList aNil)) (oSeq (oFor (iRange (aCons (mC (.int 4)) aNil)) (gN 7) (oSeq (oSet 8 (mLc (iSeq (m2 ixD (mVar 4) (mVar 7))) (gN 11) bYes (mM1 isListD indexD (mList (aCons (mC (.str "a")) (aCons (mC (.str "b")) aNil))) (aCons (mVar 11) aNil)) [11])) (oSeq (wloop (mB (m2 gtI (mCB lenD (aCons (mVar 8) aNil)) (mC (.int 1)))) (oSeq (oSet 9 (m2 ixD (mList (aCons (mC (.int 0)) (aCons (m2 subD (mCB lenD (aCons (mVar 8) aNil)) (mC (.int 2))) aNil))) (m2 modD (mCB intD (aCons (mVar 7) aNil)) (mC (.int 2))))) (oSeq (oSet 10 (mTup (aCons (mC (.str "pair")) (aCons (m2 ixD (mVar 8) (mVar 9)) (aCons (m2 ixD (mVar 8) (m2 addD (mVar 9) (mC (.int 1)))) aNil))))) (oSeq (oIf (mB (m2 notInD (mVar 10) (mVar 5))) (oLM 5 lApp (aCons (mVar 10) aNil)) oSkip) (oSeq (oSet 8 (m2 addD (m2 addD (m3 slD (mVar 8) mNoPart (mPart (mVar 9))) (mList (aCons (mM1 isListD indexD (mVar 5) (aCons (mVar 10) aNil)) aNil))) (m3 slD (mVar 8) (mPart (m2 addD (mVar 9) (mC (.int 2)))) mNoPart))) oSkip)))) wfuel) (oSeq (oSet 6 (m2 addD (mVar 6) (mVar 8))) oSkip)))) (oRet (mTup (aCons (mVar 5) (aCons (mVar 6) (aCons (m3 slD (mVar 4) mNoPart (mPart (mCB lenD (aCons (mVar 6) aNil)))) aNil))))))))))))
def m__law_chains : List D → Res D := runD .pl 12 o__law_chains
def n_law : List Str := ["script", "numbers", "symbols", "rules", "kept", "sizes_v", "texts", "turn", "great", "here", "bit", "one", "two", "due", "made", "roots", "told", "i", "first", "second", "long", "j", "k"]
def p_law : List Str := ["script"]
abbrev s_law : Stmt := top 20
theorem sc_law : FnScope n_law p_law (defScope s_law) := ⟨rfl, rfl, rfl, by decide +kernel, rfl, by decide +kernel, by decide +kernel⟩
def o_law : Env' → Out := (oSeq (oSet 1 (mCall m__law_numbers (aCons (mVar 0) (aCons (mC (.int 400)) aNil)))) (oSeq (oSet 2 (mCall m__law_symbols (aCons (mVar 1) (aCons (mC (.int 10)) (aCons (m2 ixD (mList (aCons (mC (.int 14)) (aCons (mC (.int 40)) aNil))) (m2 modD (mCB intD (aCons (m2 ixD (mVar 1) (mC (.int 0))) aNil)) (mC (.int 2)))) aNil))))) (oSeq (oSet 3 (mTup (aCons (mVar 2) (aCons (mCall m__law_roots (aCons (mVar 1) (aCons (mC (.int 80)) (aCons (mVar 2) aNil)))) aNil)))) (oSeq (oSet 4 (mCB reprD (aCons (mVar 3) aNil))) (oSeq (oSet 5 (mCall m__law_sizes (aCons (mVar 2) aNil))) (oSeq (oSet 6 (mCall m__law_texts (aCons (mVar 2) (aCons (mC (.int 4000)) aNil)))) (oSeq (oFor (iRange (aCons (mC (.int 12)) aNil)) (gN 7) (oSeq (oSet 11 (m2 modD (mCB intD (aCons (m2 ixD (mVar 1) (m2 addD (mC (.int 100)) (mVar 7))) aNil)) (mCB lenD (aCons (mVar 2) aNil)))) (oSeq (oSet 12 (m2 modD (mCB intD (aCons (m2 ixD (mVar 1) (m2 addD (mC (.int 120)) (mVar 7))) aNil)) (mCB lenD (aCons (mVar 2) aNil)))) (oSeq (oFor (iSeq (mList (aCons (mTup (aCons (mVar 11) (aCons (mVar 12) aNil))) (aCons (mTup (aCons (mVar 12) (aCons (mVar 11) aNil))) (aCons (mTup (aCons (mVar 11) (aCons (mVar 11) aNil))) aNil))))) (gT' 2 (gsC (gN 18) (gsC (gN 19) gsN))) (oSeq (oSet 20 (mLc (iSeq (mList (aCons (mVar 18) (aCons (mVar 19) aNil)))) (gN 22) (mB (m2 gtI (m2 ixD (mVar 5) (mVar 22)) (mC (.int 4000)))) (m2 ixD (mVar 5) (mVar 22)) [22])) (oSeq (oSet 13 (mTup (aCons (mC (.str "long")) (aCons (m2 ixD (m2 addD (mVar 20) (mList (aCons (mC (.int 0)) aNil))) (mC (.int 0))) aNil)))) (oSeq (oIf (mB (m2 eqD (mVar 20) (mList aNil))) (oSet 13 (mCall m__law_due (aCons (m2 ixD (mVar 6) (mVar 18)) (aCons (m2 ixD (mVar 6) (mVar 19)) aNil)))) oSkip) (oSeq (oIf (mB (m2 neD (mCB reprD (aCons (mCall m__law_told (aCons (mVar 3) (aCons (mVar 18) (aCons (mVar 19) aNil)))) aNil)) (mCB reprD (aCons (mVar 13) aNil)))) (oRet (mC (.bool false))) oSkip) oSkip))))) oSkip)))) (oSeq (oFor (iSeq (mList (aCons (mTup (aCons (m1 negD (mC (.int 1))) (aCons (mC (.int 0)) (aCons (m1 negD (mC (.int 1))) aNil)))) (aCons (mTup (aCons (mC (.int 0)) (aCons (mCB lenD (aCons (mVar 2) aNil)) (aCons (mCB lenD (aCons (mVar 2) aNil)) aNil)))) (aCons (mTup (aCons (m2 addD (mCB lenD (aCons (mVar 2) aNil)) (mC (.int 5))) (aCons (m1 negD (mC (.int 2))) (aCons (m2 addD (mCB lenD (aCons (mVar 2) aNil)) (mC (.int 5))) aNil)))) aNil))))) (gT' 3 (gsC (gN 11) (gsC (gN 12) (gsC (gN 13) gsN)))) (oSeq (oIf (mB (m2 neD (mCall m__law_told (aCons (mVar 3) (aCons (mVar 11) (aCons (mVar 12) aNil)))) (mTup (aCons (mC (.str "range")) (aCons (mVar 13) aNil))))) (oRet (mC (.bool false))) oSkip) oSkip)) (oSeq (oAsg (mCall m__law_chains (aCons (mVar 1) aNil)) (gT' 3 (gsC (gN 14) (gsC (gN 15) (gsC (gN 16) gsN))))) (oSeq (oIf (mB (m2 ltI (mCB lenD (aCons (mVar 14) aNil)) (mC (.int 200)))) (oFor (iRange (aCons (mCB lenD (aCons (mVar 15) aNil)) aNil)) (gN 17) (oSeq (oFor (iRange (aCons (mCB lenD (aCons (mVar 15) aNil)) aNil)) (gN 21) (oSeq (oIf (mB (m2 neD (mCB reprD (aCons (mCall m__law_told (aCons (mTup (aCons (mVar 14) (aCons (mVar 15) aNil))) (aCons (m2 ixD (mVar 15) (mVar 17)) (aCons (m2 ixD (mVar 15) (mVar 21)) aNil)))) aNil)) (mCB reprD (aCons (mCall m__law_due (aCons (m2 ixD (mVar 16) (mVar 17)) (aCons (m2 ixD (mVar 16) (mVar 21)) aNil))) aNil)))) (oRet (mC (.bool false))) oSkip) oSkip)) oSkip)) oSkip) (oSeq (oSet 8 (mList (aCons (mTup (aCons (mC (.str "letter")) (aCons (mC (.str "a")) aNil))) aNil))) (oSeq (oSet 9 (mC (.int 0))) (oSeq (oFor (iSeq (mList (aCons (mC (.int 1)) (aCons (mC (.int 1)) (aCons (mC (.int 1)) (aCons (mC (.int 1)) (aCons (mC (.int 0)) (aCons (mC (.int 1)) (aCons (mC (.int 0)) (aCons (mC (.int 0)) (aCons (mC (.int 0)) (aCons (mC (.int 0)) (aCons (mC (.int 1)) aNil))))))))))))) (gN 10) (oSeq (oLM 8 lApp (aCons (mTup (aCons (mC (.str "pair")) (aCons (mVar 9) (aCons (mVar 9) aNil)))) aNil)) (oSeq (oSet 9 (m2 subD (mCB lenD (aCons (mVar 8) aNil)) (mC (.int 1)))) (oSeq (oIf (mB (m2 eqD (mVar 10) (mC (.int 1)))) (oSeq (oLM 8 lApp (aCons (mTup (aCons (mC (.str "pair")) (aCons (mVar 9) (aCons (mC (.int 0)) aNil)))) aNil)) (oSet 9 (m2 subD (mCB lenD (aCons (mVar 8) aNil)) (mC (.int 1))))) oSkip) oSkip)))) (oSeq (oFor (iSeq (mList (aCons (mTup (aCons (m2 subD (mVar 9) (mC (.int 1))) (aCons (m2 subD (mVar 9) (mC (.int 1))) (aCons (mC .none) aNil)))) (aCons (mTup (aCons (m2 subD (mVar 9) (mC (.int 1))) (aCons (mVar 9) (aCons (mTup (aCons (mC (.str "long")) (aCons (mC (.int 4001)) aNil))) aNil)))) (aCons (mTup (aCons (mVar 9) (aCons (m2 subD (mVar 9) (mC (.int 1))) (aCons (mTup (aCons (mC (.str "long")) (aCons (mC (.int 4001)) aNil))) aNil)))) (aCons (mTup (aCons (m2 subD (mVar 9) (mC (.int 1))) (aCons (m2 subD (mVar 9) (mC (.int 2))) (aCons (mC (.int 2000)) aNil)))) aNil)))))) (gT' 3 (gsC (gN 11) (gsC (gN 12) (gsC (gN 13) gsN)))) (oSeq (oIf (mB (m2 neD (mCB reprD (aCons (mCall m__law_told (aCons (mTup (aCons (mVar 8) (aCons (mList (aCons (mVar 9) aNil)) aNil))) (aCons (mVar 11) (aCons (mVar 12) aNil)))) aNil)) (mCB reprD (aCons (mVar 13) aNil)))) (oRet (mC (.bool false))) oSkip) oSkip)) (oRet (m2 eqD (mCB reprD (aCons (mVar 3) aNil)) (mVar 4)))))))))))))))))
def m_law : List D → Res D := runD .pl 23 o_law
/-- what the top has written -/
structure Txt (K : PySem.W.Frag) (mg : Str → Option Value) where
  fI : Addr
  fdI : FuncData
  C_HouseError : Addr
  C_OutOfRange : Addr
  C_TooLong : Addr
  f_check_symbol : Addr
  fd_check_symbol : FuncData
  f_sizes : Addr
  fd_sizes : FuncData
  f_letters_from : Addr
  fd_letters_from : FuncData
  f_first_difference : Addr
  fd_first_difference : FuncData
  f__law_numbers : Addr
  fd__law_numbers : FuncData
  f__law_drawn : Addr
  fd__law_drawn : FuncData
  f__law_symbols : Addr
  fd__law_symbols : FuncData
  f__law_roots : Addr
  fd__law_roots : FuncData
  f__law_sizes : Addr
  fd__law_sizes : FuncData
  f__law_texts : Addr
  fd__law_texts : FuncData
  f__law_due : Addr
  fd__law_due : FuncData
  f__law_told : Addr
  fd__law_told : FuncData
  f__law_chains : Addr
  fd__law_chains : FuncData
  t_MOST_COMPARED : Tok
  FI : Fun K "__init__" "HouseError.__init__" s_init fI fdI
  bdI : Binds K fdI n_init []
  tI : PySem.W.typeIn K (.ref fI) = some (.type "function")
  b_ValueError : mg "ValueError" = none
  vV : PySem.W.findCls K (.type "ValueError") (.type "type") "__init__" = some (.val (.builtin "ValueError.__init__"))
  E_HouseError : ErrF K mg "HouseError" C_HouseError fI
  K_HouseError : ExK K C_HouseError
  E_OutOfRange : ErrF K mg "OutOfRange" C_OutOfRange fI
  K_OutOfRange : ExK K C_OutOfRange
  E_TooLong : ErrF K mg "TooLong" C_TooLong fI
  K_TooLong : ExK K C_TooLong
  x_HouseError_HouseError : PySem.W.exmOne K (.ref C_HouseError) (.ref C_HouseError) = some true
  x_OutOfRange_HouseError : PySem.W.exmOne K (.ref C_OutOfRange) (.ref C_HouseError) = some true
  x_TooLong_HouseError : PySem.W.exmOne K (.ref C_TooLong) (.ref C_HouseError) = some true
  i_HouseError_OutOfRange : PySem.W.kitOne K (.ref C_HouseError) (.ref C_OutOfRange) = some false
  i_OutOfRange_OutOfRange : PySem.W.kitOne K (.ref C_OutOfRange) (.ref C_OutOfRange) = some true
  i_TooLong_OutOfRange : PySem.W.kitOne K (.ref C_TooLong) (.ref C_OutOfRange) = some false
  i_HouseError_TooLong : PySem.W.kitOne K (.ref C_HouseError) (.ref C_TooLong) = some false
  i_OutOfRange_TooLong : PySem.W.kitOne K (.ref C_OutOfRange) (.ref C_TooLong) = some false
  i_TooLong_TooLong : PySem.W.kitOne K (.ref C_TooLong) (.ref C_TooLong) = some true
  F_check_symbol : Fun K "check_symbol" "check_symbol" s_check_symbol f_check_symbol fd_check_symbol
  bd_check_symbol : Binds K fd_check_symbol p_check_symbol []
  m_check_symbol : mg "check_symbol" = some (.ref f_check_symbol)
  k_check_symbol : PySem.W.keepIn K (.ref f_check_symbol) = true
  F_sizes : Fun K "sizes" "sizes" s_sizes f_sizes fd_sizes
  bd_sizes : Binds K fd_sizes p_sizes []
  m_sizes : mg "sizes" = some (.ref f_sizes)
  k_sizes : PySem.W.keepIn K (.ref f_sizes) = true
  F_letters_from : Fun K "letters_from" "letters_from" s_letters_from f_letters_from fd_letters_from
  bd_letters_from : Binds K fd_letters_from p_letters_from []
  m_letters_from : mg "letters_from" = some (.ref f_letters_from)
  k_letters_from : PySem.W.keepIn K (.ref f_letters_from) = true
  F_first_difference : Fun K "first_difference" "first_difference" s_first_difference f_first_difference fd_first_difference
  bd_first_difference : Binds K fd_first_difference p_first_difference []
  m_first_difference : mg "first_difference" = some (.ref f_first_difference)
  k_first_difference : PySem.W.keepIn K (.ref f_first_difference) = true
  F__law_numbers : Fun K "_law_numbers" "_law_numbers" s__law_numbers f__law_numbers fd__law_numbers
  bd__law_numbers : Binds K fd__law_numbers p__law_numbers []
  m__law_numbers : mg "_law_numbers" = some (.ref f__law_numbers)
  k__law_numbers : PySem.W.keepIn K (.ref f__law_numbers) = true
  F__law_drawn : Fun K "_law_drawn" "_law_drawn" s__law_drawn f__law_drawn fd__law_drawn
  bd__law_drawn : Binds K fd__law_drawn p__law_drawn []
  m__law_drawn : mg "_law_drawn" = some (.ref f__law_drawn)
  k__law_drawn : PySem.W.keepIn K (.ref f__law_drawn) = true
  F__law_symbols : Fun K "_law_symbols" "_law_symbols" s__law_symbols f__law_symbols fd__law_symbols
  bd__law_symbols : Binds K fd__law_symbols p__law_symbols []
  m__law_symbols : mg "_law_symbols" = some (.ref f__law_symbols)
  k__law_symbols : PySem.W.keepIn K (.ref f__law_symbols) = true
  F__law_roots : Fun K "_law_roots" "_law_roots" s__law_roots f__law_roots fd__law_roots
  bd__law_roots : Binds K fd__law_roots p__law_roots []
  m__law_roots : mg "_law_roots" = some (.ref f__law_roots)
  k__law_roots : PySem.W.keepIn K (.ref f__law_roots) = true
  F__law_sizes : Fun K "_law_sizes" "_law_sizes" s__law_sizes f__law_sizes fd__law_sizes
  bd__law_sizes : Binds K fd__law_sizes p__law_sizes []
  m__law_sizes : mg "_law_sizes" = some (.ref f__law_sizes)
  k__law_sizes : PySem.W.keepIn K (.ref f__law_sizes) = true
  F__law_texts : Fun K "_law_texts" "_law_texts" s__law_texts f__law_texts fd__law_texts
  bd__law_texts : Binds K fd__law_texts p__law_texts []
  m__law_texts : mg "_law_texts" = some (.ref f__law_texts)
  k__law_texts : PySem.W.keepIn K (.ref f__law_texts) = true
  F__law_due : Fun K "_law_due" "_law_due" s__law_due f__law_due fd__law_due
  bd__law_due : Binds K fd__law_due p__law_due []
  m__law_due : mg "_law_due" = some (.ref f__law_due)
  k__law_due : PySem.W.keepIn K (.ref f__law_due) = true
  F__law_told : Fun K "_law_told" "_law_told" s__law_told f__law_told fd__law_told
  bd__law_told : Binds K fd__law_told p__law_told []
  m__law_told : mg "_law_told" = some (.ref f__law_told)
  k__law_told : PySem.W.keepIn K (.ref f__law_told) = true
  F__law_chains : Fun K "_law_chains" "_law_chains" s__law_chains f__law_chains fd__law_chains
  bd__law_chains : Binds K fd__law_chains p__law_chains []
  m__law_chains : mg "_law_chains" = some (.ref f__law_chains)
  k__law_chains : PySem.W.keepIn K (.ref f__law_chains) = true
  b_abs : mg "abs" = none
  b_int : mg "int" = none
  b_isinstance : mg "isinstance" = none
  b_len : mg "len" = none
  b_max : mg "max" = none
  b_min : mg "min" = none
  b_range : mg "range" = none
  b_repr : mg "repr" = none
  b_sum : mg "sum" = none
  c_MOST_COMPARED : mg "MOST_COMPARED" = some (.int 4000 t_MOST_COMPARED)
section
variable {P : Program} {w : World} {K : PySem.W.Frag} {mg : Str → Option Value} {base : Heap}
theorem ok_init (T : Txt K mg) : FnOk P w K mg base (L2.CX P w) 1 T.fI T.fdI n_init (spInit K) :=
  T.FI.okX sc_init (fun vs H Q E h => by obtain ⟨_, _, _, rfl, _⟩ := h; rfl) fun cdv A outer s H vs Q E hr h => by
    obtain ⟨a, C, v, rfl, hC, hn, ha, k⟩ := h
    refine ⟨_, pss_cons (ps_expr (pe_veinit (pl := _) rfl T.b_ValueError T.vV (pa_cons (pv 0) (pa_cons pe_str pa_nil)))) (pss_one (ps_ost (pv 0) (pv 1))), ?_⟩
    exact ⟨_, rfl, a, C, _, rfl, Nat.succ_le_of_lt (Nat.zero_lt_succ 999), hC, ha, _, rfl, _, rfl, a, C, rfl, hC, hn, .inl ⟨ha, fun dx h1 h2 => k dx h1 h2⟩⟩
theorem hh_HouseError (T : Txt K mg) : ∀ cn b, h_HouseError cn = some b → ∀ cls, mg cn = some cls → PySem.W.exmOne K cls (.ref T.C_HouseError) = some b := by
  intro cn b h cls hm; unfold h_HouseError at h
  split at h; · rename_i e; subst e; cases h; rw [T.E_HouseError.g] at hm; cases hm; exact T.x_HouseError_HouseError
  split at h; · rename_i e; subst e; cases h; rw [T.E_OutOfRange.g] at hm; cases hm; exact T.x_OutOfRange_HouseError
  split at h; · rename_i e; subst e; cases h; rw [T.E_TooLong.g] at hm; cases hm; exact T.x_TooLong_HouseError
  cases h
theorem xk_HouseError (T : Txt K mg) : ∀ cn cls, h_HouseError cn = some true → mg cn = some cls → ∃ C, cls = .ref C ∧ ExK K C := by
  intro cn cls h hm; unfold h_HouseError at h
  split at h; · rename_i e; subst e; rw [T.E_HouseError.g] at hm; cases hm; exact ⟨_, rfl, T.K_HouseError⟩
  split at h; · rename_i e; subst e; rw [T.E_OutOfRange.g] at hm; cases hm; exact ⟨_, rfl, T.K_OutOfRange⟩
  split at h; · rename_i e; subst e; rw [T.E_TooLong.g] at hm; cases hm; exact ⟨_, rfl, T.K_TooLong⟩
  cases h
theorem kit_HouseError_OutOfRange (T : Txt K mg) : ∀ cn cls, h_HouseError cn = some true → mg cn = some cls → ∀ C, cls = .ref C → PySem.W.kitOne K (.ref C) (.ref T.C_OutOfRange) = some (isub_OutOfRange cn) := by
  intro cn cls h hm C hC; subst hC; unfold h_HouseError at h
  split at h; · rename_i e; subst e; rw [T.E_HouseError.g] at hm; cases hm; exact T.i_HouseError_OutOfRange
  split at h; · rename_i e; subst e; rw [T.E_OutOfRange.g] at hm; cases hm; exact T.i_OutOfRange_OutOfRange
  split at h; · rename_i e; subst e; rw [T.E_TooLong.g] at hm; cases hm; exact T.i_TooLong_OutOfRange
  cases h
theorem kit_HouseError_TooLong (T : Txt K mg) : ∀ cn cls, h_HouseError cn = some true → mg cn = some cls → ∀ C, cls = .ref C → PySem.W.kitOne K (.ref C) (.ref T.C_TooLong) = some (isub_TooLong cn) := by
  intro cn cls h hm C hC; subst hC; unfold h_HouseError at h
  split at h; · rename_i e; subst e; rw [T.E_HouseError.g] at hm; cases hm; exact T.i_HouseError_TooLong
  split at h; · rename_i e; subst e; rw [T.E_OutOfRange.g] at hm; cases hm; exact T.i_OutOfRange_TooLong
  split at h; · rename_i e; subst e; rw [T.E_TooLong.g] at hm; cases hm; exact T.i_TooLong_TooLong
  cases h
set_option maxHeartbeats 4000000 in
theorem ok_check_symbol (T : Txt K mg) : FnOk P w K mg base (L2.CX P w) 3 T.f_check_symbol T.fd_check_symbol p_check_symbol (spD .pl mg 2 m_check_symbol) :=
  DL.Fun.okD (M1 := _) (k := 2) T.F_check_symbol sc_check_symbol (by decide) fun cdv A outer s H E hr =>
    have S := sc_check_symbol; have tk := @tkX P w K mg base n_check_symbol "check_symbol" (defScope s_check_symbol) T.f_check_symbol cdv A outer s H E; have po := @poX P w K mg base n_check_symbol "check_symbol" (defScope s_check_symbol) T.f_check_symbol cdv A outer s H E
    (dss_one (ds_if rfl (dt_not (dt_chain op_le op_lt b2_le b2_lt de_int (de_var (pv 1) rfl) (de_callB call_len cb_len rfl T.b_len bt_len (da_consC (de_ix (de_var (pv 0) rfl) de_int (fun _ _ => rfl)) da_nil)))) (dss_one (ds_raise rfl T.E_OutOfRange T.tI (ok_init T) (hr.mono (by decide)) T.bdI tk rfl rfl T.E_OutOfRange.g (de_var (pv 1) rfl))) dss_nil))
set_option maxHeartbeats 4000000 in
theorem ok_sizes (T : Txt K mg) : FnOk P w K mg base (L2.CX P w) 1 T.f_sizes T.fd_sizes p_sizes (spD .fr mg 1 m_sizes) :=
  DL.Fun.okD (M1 := []) (k := 0) T.F_sizes sc_sizes (by decide) fun cdv A outer s H E hr =>
    have S := sc_sizes; have tk := @tkX P w K mg base n_sizes "sizes" (defScope s_sizes) T.f_sizes cdv A outer s H E; have po := @poX P w K mg base n_sizes "sizes" (defScope s_sizes) T.f_sizes cdv A outer s H E
    (dss_cons (ds_setO rfl S.nd rfl (Or.inl rfl) (de_list da_nil)) (dss_cons (ds_for rfl po rfl (di_seq (de_var (pv 0) rfl)) (dg_name (i := 2) S.nd rfl (Or.inl rfl)) (dss_cons (ds_append rfl rfl (pv 1) (de_if (dt_eq hr.units (de_ix (de_var (pv 2) rfl) de_int (fun _ _ => rfl)) de_str) de_int (de_add (de_ix (de_varO (pv 1) rfl) (de_ix (de_var (pv 2) rfl) de_int (fun _ _ => rfl)) (fun _ _ => rfl)) (de_ix (de_varO (pv 1) rfl) (de_ix (de_var (pv 2) rfl) de_int (fun _ _ => rfl)) (fun _ _ => rfl))))) (dss_weakR (N := [.fz, .ow, .un]) rfl dss_nil))) (dss_one (ds_retO (i := 1) rfl rfl (pv 1)))))
set_option maxHeartbeats 4000000 in
theorem ok_letters_from (T : Txt K mg) : FnOk P w K mg base (L2.CX P w) 1 T.f_letters_from T.fd_letters_from p_letters_from (spD .pl mg 5 m_letters_from) :=
  DL.Fun.okD (M1 := []) (k := 0) T.F_letters_from sc_letters_from (by decide) fun cdv A outer s H E hr =>
    have S := sc_letters_from; have tk := @tkX P w K mg base n_letters_from "letters_from" (defScope s_letters_from) T.f_letters_from cdv A outer s H E; have po := @poX P w K mg base n_letters_from "letters_from" (defScope s_letters_from) T.f_letters_from cdv A outer s H E
    (dss_cons (ds_set rfl S.nd rfl (Or.inl rfl) de_str) (dss_cons (ds_setO rfl S.nd rfl (Or.inl rfl) (de_list (da_cons (de_tup (da_cons (de_var (pv 2) rfl) (da_cons (de_var (pv 3) rfl) (da_cons (de_var (pv 4) rfl) da_nil)))) da_nil))) (dss_cons (ds_while wfuel rfl po (dt_gt (de_callB call_len cb_len rfl T.b_len bt_len (da_consC (de_varO (pv 6) rfl) da_nil)) de_int) (dss_cons (ds_pop rfl rfl (pv 6) (dg_tup rfl (dgs_cons (dg_name (i := 2) S.nd rfl (Or.inl rfl)) (dgs_cons (dg_name (i := 3) S.nd rfl (Or.inl rfl)) (dgs_cons (dg_name (i := 4) S.nd rfl (Or.inl rfl)) dgs_nil))))) (dss_one (ds_if rfl (dt_w (dw_and (dt_lt (de_var (pv 3) rfl) (de_var (pv 4) rfl)) (dw_and1 (dt_eq hr.units (de_ix (de_ix (de_var (pv 0) rfl) (de_var (pv 2) rfl) (fun _ _ => rfl)) de_int (fun _ _ => rfl)) de_str)))) (dss_one (ds_augG rfl rfl (fun te h => ps_aug S.nd rfl (Or.inl rfl) h ip_addA) i2_addA (de_ix (de_ix (de_var (pv 0) rfl) (de_var (pv 2) rfl) (fun _ _ => rfl)) de_int (fun _ _ => rfl)))) (dss_one (ds_if rfl (dt_lt (de_var (pv 3) rfl) (de_var (pv 4) rfl)) (dss_cons (ds_asg rfl (de_ix (de_var (pv 0) rfl) (de_var (pv 2) rfl) (fun _ _ => rfl)) (dg_tup rfl (dgs_cons (dg_name (i := 8) S.nd rfl (Or.inl rfl)) (dgs_cons (dg_name (i := 9) S.nd rfl (Or.inl rfl)) (dgs_cons (dg_name (i := 10) S.nd rfl (Or.inl rfl)) dgs_nil))))) (dss_cons (ds_set rfl S.nd rfl (Or.inl rfl) (de_ix (de_var (pv 1) rfl) (de_var (pv 9) rfl) (fun _ _ => rfl))) (dss_cons (ds_append rfl rfl (pv 6) (de_tup (da_cons (de_var (pv 10) rfl) (da_cons (de_callB (call_max2 rfl) cb_max rfl T.b_max bt_max (da_consC de_int (da_consC (de_sub (de_var (pv 3) rfl) (de_var (pv 7) rfl)) da_nil))) (da_cons (de_callB (call_max2 rfl) cb_max rfl T.b_max bt_max (da_consC de_int (da_consC (de_sub (de_var (pv 4) rfl) (de_var (pv 7) rfl)) da_nil))) da_nil))))) (dss_cons (ds_append rfl rfl (pv 6) (de_tup (da_cons (de_var (pv 9) rfl) (da_cons (de_callB (call_min2 rfl) cb_min rfl T.b_min bt_min (da_consC (de_var (pv 3) rfl) (da_consC (de_var (pv 7) rfl) da_nil))) (da_cons (de_callB (call_min2 rfl) cb_min rfl T.b_min bt_min (da_consC (de_var (pv 4) rfl) (da_consC (de_var (pv 7) rfl) da_nil))) da_nil))))) (dss_weakR (N := [.fz, .fz, .fz, .fz, .fz, .fz, .ow, .un, .un, .un, .un]) rfl dss_nil))))) dss_nil)))))) (dss_one (ds_ret rfl rfl (de_var (pv 5) rfl))))))
set_option maxHeartbeats 4000000 in
theorem ok_first_difference (T : Txt K mg) : FnOk P w K mg base (L2.CX P w) 4 T.f_first_difference T.fd_first_difference p_first_difference (spD .pl mg 3 m_first_difference) :=
  DL.Fun.okD (M1 := []) (k := 3) T.F_first_difference sc_first_difference (by decide) fun cdv A outer s H E hr =>
    have S := sc_first_difference; have tk := @tkX P w K mg base n_first_difference "first_difference" (defScope s_first_difference) T.f_first_difference cdv A outer s H E; have po := @poX P w K mg base n_first_difference "first_difference" (defScope s_first_difference) T.f_first_difference cdv A outer s H E
    (dss_cons (ds_set rfl S.nd rfl (Or.inl rfl) (de_ix (de_var (pv 0) rfl) de_int (fun _ _ => rfl))) (dss_cons (ds_set rfl S.nd rfl (Or.inl rfl) (DE.pl (de_call (ok_sizes T) (hr.mono (by decide)) rfl T.m_sizes T.k_sizes T.bd_sizes tk (da_cons (de_var (pv 3) rfl) da_nil) (fun env ds h => by obtain ⟨_, r0, rfl, h0⟩ := aLen_cons h; cases h0; rfl)))) (dss_cons (ds_for rfl po rfl (di_seq (de_tup (da_cons (de_var (pv 1) rfl) (da_cons (de_var (pv 2) rfl) da_nil)))) (dg_name (i := 5) S.nd rfl (Or.inl rfl)) (dss_cons (ds_expr rfl (de_call (ok_check_symbol T) (hr.mono (by decide)) rfl T.m_check_symbol T.k_check_symbol T.bd_check_symbol tk (da_cons (de_var (pv 0) rfl) (da_cons (de_var (pv 5) rfl) da_nil)) (fun env ds h => by obtain ⟨_, r0, rfl, h0⟩ := aLen_cons h; obtain ⟨_, r1, rfl, h1⟩ := aLen_cons h0; cases h1; rfl))) (dss_weakR (N := [.fz, .fz, .fz, .fz, .fz, .un, .un, .un]) rfl dss_nil))) (dss_cons (ds_for rfl po rfl (di_seq (de_tup (da_cons (de_var (pv 1) rfl) (da_cons (de_var (pv 2) rfl) da_nil)))) (dg_name (i := 5) S.nd rfl (Or.inl rfl)) (dss_cons (ds_if rfl (dt_gt (de_ix (de_var (pv 4) rfl) (de_var (pv 5) rfl) (fun _ _ => rfl)) (de_glob (v := .int (4000)) rfl T.c_MOST_COMPARED ⟨_, rfl⟩ fun _ _ => .int _)) (dss_one (ds_raise rfl T.E_TooLong T.tI (ok_init T) (hr.mono (by decide)) T.bdI tk rfl rfl T.E_TooLong.g (de_ix (de_var (pv 4) rfl) (de_var (pv 5) rfl) (fun _ _ => rfl)))) dss_nil) (dss_weakR (N := [.fz, .fz, .fz, .fz, .fz, .un, .un, .un]) rfl dss_nil))) (dss_cons (ds_if rfl (dt_eq hr.units (de_var (pv 1) rfl) (de_var (pv 2) rfl)) (dss_one (ds_ret rfl rfl de_non)) dss_nil) (dss_cons (ds_set rfl S.nd rfl (Or.inl rfl) (de_call (ok_letters_from T) (hr.mono (by decide)) rfl T.m_letters_from T.k_letters_from T.bd_letters_from tk (da_cons (de_var (pv 3) rfl) (da_cons (de_var (pv 4) rfl) (da_cons (de_var (pv 1) rfl) (da_cons de_int (da_cons (de_ix (de_var (pv 4) rfl) (de_var (pv 1) rfl) (fun _ _ => rfl)) da_nil))))) (fun env ds h => by obtain ⟨_, r0, rfl, h0⟩ := aLen_cons h; obtain ⟨_, r1, rfl, h1⟩ := aLen_cons h0; obtain ⟨_, r2, rfl, h2⟩ := aLen_cons h1; obtain ⟨_, r3, rfl, h3⟩ := aLen_cons h2; obtain ⟨_, r4, rfl, h4⟩ := aLen_cons h3; cases h4; rfl))) (dss_cons (ds_set rfl S.nd rfl (Or.inl rfl) (de_call (ok_letters_from T) (hr.mono (by decide)) rfl T.m_letters_from T.k_letters_from T.bd_letters_from tk (da_cons (de_var (pv 3) rfl) (da_cons (de_var (pv 4) rfl) (da_cons (de_var (pv 2) rfl) (da_cons de_int (da_cons (de_ix (de_var (pv 4) rfl) (de_var (pv 2) rfl) (fun _ _ => rfl)) da_nil))))) (fun env ds h => by obtain ⟨_, r0, rfl, h0⟩ := aLen_cons h; obtain ⟨_, r1, rfl, h1⟩ := aLen_cons h0; obtain ⟨_, r2, rfl, h2⟩ := aLen_cons h1; obtain ⟨_, r3, rfl, h3⟩ := aLen_cons h2; obtain ⟨_, r4, rfl, h4⟩ := aLen_cons h3; cases h4; rfl))) (dss_cons (ds_for rfl po rfl (di_range1 rfl T.b_range (de_callB (call_min2 rfl) cb_min rfl T.b_min bt_min (da_consC (de_callB call_len cb_len rfl T.b_len bt_len (da_consC (de_var (pv 6) rfl) da_nil)) (da_consC (de_callB call_len cb_len rfl T.b_len bt_len (da_consC (de_var (pv 7) rfl) da_nil)) da_nil)))) (dg_name (i := 5) S.nd rfl (Or.inl rfl)) (dss_cons (ds_if rfl (dt_ne hr.units (de_ix (de_var (pv 6) rfl) (de_var (pv 5) rfl) (fun _ _ => rfl)) (de_ix (de_var (pv 7) rfl) (de_var (pv 5) rfl) (fun _ _ => rfl))) (dss_one (ds_ret rfl rfl (de_var (pv 5) rfl))) dss_nil) (dss_weakR (N := [.fz, .fz, .fz, .fz, .fz, .un, .fz, .fz]) rfl dss_nil))) (dss_one (ds_ret rfl rfl (de_if (dt_eq hr.units (de_callB call_len cb_len rfl T.b_len bt_len (da_consC (de_var (pv 6) rfl) da_nil)) (de_callB call_len cb_len rfl T.b_len bt_len (da_consC (de_var (pv 7) rfl) da_nil))) de_non (de_callB (call_min2 rfl) cb_min rfl T.b_min bt_min (da_consC (de_callB call_len cb_len rfl T.b_len bt_len (da_consC (de_var (pv 6) rfl) da_nil)) (da_consC (de_callB call_len cb_len rfl T.b_len bt_len (da_consC (de_var (pv 7) rfl) da_nil)) da_nil))))))))))))))
set_option maxHeartbeats 4000000 in
theorem ok__law_numbers (T : Txt K mg) : FnOk P w K mg base (L2.CX P w) 1 T.f__law_numbers T.fd__law_numbers p__law_numbers (spD .fr mg 2 m__law_numbers) :=
  DL.Fun.okD (M1 := []) (k := 0) T.F__law_numbers sc__law_numbers (by decide) fun cdv A outer s H E hr =>
    have S := sc__law_numbers; have tk := @tkX P w K mg base n__law_numbers "_law_numbers" (defScope s__law_numbers) T.f__law_numbers cdv A outer s H E; have po := @poX P w K mg base n__law_numbers "_law_numbers" (defScope s__law_numbers) T.f__law_numbers cdv A outer s H E
    (dss_cons (ds_setO rfl S.nd rfl (Or.inl rfl) (de_cat (de_lc (own := [("cell", 7)]) rfl S.nd (by decide) (DIS.of (di_seq (de_sl (de_var (pv 0) rfl) do_none (do_some de_int)))) (blkOk_by (N := n__law_numbers) (sc := (defScope s__law_numbers)) (by decide +kernel)) (fun _ _ _ _ _ => (dg_name (i := 7) S.nd rfl (Or.inl rfl))) (fun _ _ _ _ _ => dts_nil) (fun _ _ _ _ _ => (de_callB call_abs cb_abs rfl T.b_abs bt_abs (da_consC (de_var (pv 7) rfl) da_nil)))) (de_list (da_cons de_int da_nil)))) (dss_cons (ds_if rfl (dt_gt (de_callB call_len cb_len rfl T.b_len bt_len (da_consC (de_var (pv 0) rfl) da_nil)) de_int) (dss_one (ds_setO rfl S.nd rfl (Or.inl rfl) (de_slL (de_varO (pv 2) rfl) do_none (do_some (de_neg de_int))))) dss_nil) (dss_cons (ds_setLc (i := 3) rfl (own := [("cell", 7)]) rfl S.nd (by decide) (dis_own (de_varO (pv 2) rfl)) (blkOk_by (N := n__law_numbers) (sc := (defScope s__law_numbers)) (by decide +kernel)) (fun _ _ _ _ _ => (dg_name (i := 7) S.nd rfl (Or.inl rfl))) (fun _ _ _ _ _ => dts_nil) (fun _ _ _ _ _ => (de_mod (de_callTy call_int1 cb_int rfl T.b_int bt_int (da_consC (de_add (de_mul (de_var (pv 7) rfl) de_int) de_int) da_nil)) de_int))) (dss_cons (ds_setO rfl S.nd rfl (Or.inl rfl) (de_list da_nil)) (dss_cons (ds_for rfl po rfl (di_range1 rfl T.b_range (de_var (pv 1) rfl)) (dg_name (i := 5) S.nd rfl (Or.inl rfl)) (dss_cons (ds_set rfl S.nd rfl (Or.inl rfl) (de_mod (de_callTy call_int1 cb_int rfl T.b_int bt_int (da_consC (de_var (pv 5) rfl) da_nil)) (de_callB call_len cb_len rfl T.b_len bt_len (da_consC (de_varO (pv 2) rfl) da_nil)))) (dss_cons (ds_if rfl (dt_ge (de_ix (de_varO (pv 2) rfl) (de_var (pv 6) rfl) (fun _ _ => rfl)) (de_pow de_int de_int)) (dss_cons (ds_append rfl rfl (pv 4) (de_mod (de_callTy call_int1 cb_int rfl T.b_int bt_int (da_consC (de_ix (de_varO (pv 2) rfl) (de_var (pv 6) rfl) (fun _ _ => rfl)) da_nil)) de_int)) (dss_one (ds_put rfl rfl (pv 2) (de_var (pv 6) rfl) (de_fdiv (de_ix (de_varO (pv 2) rfl) (de_var (pv 6) rfl) (fun _ _ => rfl)) de_int) (fun _ _ h1 h2 => pg_sub h1 h2 set_list)))) (dss_cons (ds_put rfl rfl (pv 3) (de_var (pv 6) rfl) (de_mod (de_callTy call_int1 cb_int rfl T.b_int bt_int (da_consC (de_add (de_add (de_mul (de_ix (de_varO (pv 3) rfl) (de_var (pv 6) rfl) (fun _ _ => rfl)) de_int) de_int) (de_mul de_int (de_var (pv 5) rfl))) da_nil)) de_int) (fun _ _ h1 h2 => pg_sub h1 h2 set_list)) (dss_one (ds_append rfl rfl (pv 4) (de_mod (de_callTy call_int1 cb_int rfl T.b_int bt_int (da_consC (de_add (de_ix (de_varO (pv 2) rfl) (de_var (pv 6) rfl) (fun _ _ => rfl)) (de_fdiv (de_ix (de_varO (pv 3) rfl) (de_var (pv 6) rfl) (fun _ _ => rfl)) de_int)) da_nil)) de_int))))) (dss_weakR (N := [.fz, .fz, .ow, .ow, .ow, .un, .un, .un]) rfl dss_nil)))) (dss_one (ds_retO (i := 4) rfl rfl (pv 4))))))))
set_option maxHeartbeats 4000000 in
theorem ok__law_drawn (T : Txt K mg) : FnOk P w K mg base (L2.CX P w) 1 T.f__law_drawn T.fd__law_drawn p__law_drawn (spD .pl mg 2 m__law_drawn) :=
  DL.Fun.okD (M1 := []) (k := 0) T.F__law_drawn sc__law_drawn (by decide) fun cdv A outer s H E hr =>
    have S := sc__law_drawn; have tk := @tkX P w K mg base n__law_drawn "_law_drawn" (defScope s__law_drawn) T.f__law_drawn cdv A outer s H E; have po := @poX P w K mg base n__law_drawn "_law_drawn" (defScope s__law_drawn) T.f__law_drawn cdv A outer s H E
    (dss_one (ds_ret rfl rfl (de_ix (de_var (pv 0) rfl) (de_mod (de_callTy call_int1 cb_int rfl T.b_int bt_int (da_consC (de_var (pv 1) rfl) da_nil)) (de_callB call_len cb_len rfl T.b_len bt_len (da_consC (de_var (pv 0) rfl) da_nil))) (fun _ _ => rfl))))
set_option maxHeartbeats 4000000 in
theorem ok__law_symbols (T : Txt K mg) : FnOk P w K mg base (L2.CX P w) 2 T.f__law_symbols T.fd__law_symbols p__law_symbols (spD .fr mg 3 m__law_symbols) :=
  DL.Fun.okD (M1 := []) (k := 1) T.F__law_symbols sc__law_symbols (by decide) fun cdv A outer s H E hr =>
    have S := sc__law_symbols; have tk := @tkX P w K mg base n__law_symbols "_law_symbols" (defScope s__law_symbols) T.f__law_symbols cdv A outer s H E; have po := @poX P w K mg base n__law_symbols "_law_symbols" (defScope s__law_symbols) T.f__law_symbols cdv A outer s H E
    (dss_cons (ds_setLc (i := 3) rfl (own := [("letter", 9)]) rfl S.nd (by decide) (DIS.of (di_seq (de_ix (de_list (da_cons de_str (da_cons de_str (da_cons de_str (da_cons de_str da_nil))))) (de_mod (de_callTy call_int1 cb_int rfl T.b_int bt_int (da_consC (de_call (ok__law_drawn T) (hr.mono (by decide)) rfl T.m__law_drawn T.k__law_drawn T.bd__law_drawn tk (da_cons (de_var (pv 0) rfl) (da_cons (de_var (pv 1) rfl) da_nil)) (fun env ds h => by obtain ⟨_, r0, rfl, h0⟩ := aLen_cons h; obtain ⟨_, r1, rfl, h1⟩ := aLen_cons h0; cases h1; rfl)) da_nil)) de_int) (fun _ _ => rfl)))) (blkOk_by (N := n__law_symbols) (sc := (defScope s__law_symbols)) (by decide +kernel)) (fun _ _ _ _ _ => (dg_name (i := 9) S.nd rfl (Or.inl rfl))) (fun _ _ _ _ _ => dts_nil) (fun _ _ _ _ _ => (de_tup (da_cons de_str (da_cons (de_var (pv 9) rfl) da_nil))))) (dss_cons (ds_for rfl po rfl (di_range1 rfl T.b_range (de_mod (de_callTy call_int1 cb_int rfl T.b_int bt_int (da_consC (de_call (ok__law_drawn T) (hr.mono (by decide)) rfl T.m__law_drawn T.k__law_drawn T.bd__law_drawn tk (da_cons (de_var (pv 0) rfl) (da_cons (de_add (de_var (pv 1) rfl) de_int) da_nil)) (fun env ds h => by obtain ⟨_, r0, rfl, h0⟩ := aLen_cons h; obtain ⟨_, r1, rfl, h1⟩ := aLen_cons h0; cases h1; rfl)) da_nil)) (de_add (de_var (pv 2) rfl) de_int))) (dg_name (i := 4) S.nd rfl (Or.inl rfl)) (dss_cons (ds_set rfl S.nd rfl (Or.inl rfl) (de_call (ok__law_drawn T) (hr.mono (by decide)) rfl T.m__law_drawn T.k__law_drawn T.bd__law_drawn tk (da_cons (de_var (pv 0) rfl) (da_cons (de_add (de_add (de_var (pv 1) rfl) de_int) (de_var (pv 4) rfl)) da_nil)) (fun env ds h => by obtain ⟨_, r0, rfl, h0⟩ := aLen_cons h; obtain ⟨_, r1, rfl, h1⟩ := aLen_cons h0; cases h1; rfl))) (dss_cons (ds_set rfl S.nd rfl (Or.inl rfl) (de_mod (de_callTy call_int1 cb_int rfl T.b_int bt_int (da_consC (de_fdiv (de_var (pv 5) rfl) de_int) da_nil)) de_int)) (dss_cons (ds_set rfl S.nd rfl (Or.inl rfl) (de_ix (de_list (da_cons (de_mod (de_callTy call_int1 cb_int rfl T.b_int bt_int (da_consC (de_fdiv (de_var (pv 5) rfl) de_int) da_nil)) (de_callB call_len cb_len rfl T.b_len bt_len (da_consC (de_varO (pv 3) rfl) da_nil))) (da_cons (de_sub (de_callB call_len cb_len rfl T.b_len bt_len (da_consC (de_varO (pv 3) rfl) da_nil)) de_int) (da_cons (de_callB (call_max2 rfl) cb_max rfl T.b_max bt_max (da_consC de_int (da_consC (de_sub (de_callB call_len cb_len rfl T.b_len bt_len (da_consC (de_varO (pv 3) rfl) da_nil)) de_int) da_nil))) da_nil)))) (de_var (pv 6) rfl) (fun _ _ => rfl))) (dss_cons (ds_set rfl S.nd rfl (Or.inl rfl) (de_ix (de_list (da_cons (de_mod (de_callTy call_int1 cb_int rfl T.b_int bt_int (da_consC (de_fdiv (de_var (pv 5) rfl) de_int) da_nil)) (de_callB call_len cb_len rfl T.b_len bt_len (da_consC (de_varO (pv 3) rfl) da_nil))) (da_cons (de_sub (de_callB call_len cb_len rfl T.b_len bt_len (da_consC (de_varO (pv 3) rfl) da_nil)) de_int) (da_cons (de_callB (call_max2 rfl) cb_max rfl T.b_max bt_max (da_consC de_int (da_consC (de_sub (de_sub (de_callB call_len cb_len rfl T.b_len bt_len (da_consC (de_varO (pv 3) rfl) da_nil)) de_int) (de_mod (de_callTy call_int1 cb_int rfl T.b_int bt_int (da_consC (de_fdiv (de_var (pv 5) rfl) de_int) da_nil)) de_int)) da_nil))) da_nil)))) (de_mod (de_callTy call_int1 cb_int rfl T.b_int bt_int (da_consC (de_var (pv 5) rfl) da_nil)) de_int) (fun _ _ => rfl))) (dss_cons (ds_if rfl (dt_notIn (hr65 hr) (de_tup (da_cons de_str (da_cons (de_var (pv 7) rfl) (da_cons (de_var (pv 8) rfl) da_nil)))) (de_varO (pv 3) rfl)) (dss_one (ds_append rfl rfl (pv 3) (de_tup (da_cons de_str (da_cons (de_var (pv 7) rfl) (da_cons (de_var (pv 8) rfl) da_nil)))))) dss_nil) (dss_weakR (N := [.fz, .fz, .fz, .ow, .un, .un, .un, .un, .un, .un]) rfl dss_nil))))))) (dss_one (ds_retO (i := 3) rfl rfl (pv 3)))))
set_option maxHeartbeats 4000000 in
theorem ok__law_roots (T : Txt K mg) : FnOk P w K mg base (L2.CX P w) 2 T.f__law_roots T.fd__law_roots p__law_roots (spD .fr mg 3 m__law_roots) :=
  DL.Fun.okD (M1 := []) (k := 1) T.F__law_roots sc__law_roots (by decide) fun cdv A outer s H E hr =>
    have S := sc__law_roots; have tk := @tkX P w K mg base n__law_roots "_law_roots" (defScope s__law_roots) T.f__law_roots cdv A outer s H E; have po := @poX P w K mg base n__law_roots "_law_roots" (defScope s__law_roots) T.f__law_roots cdv A outer s H E
    (dss_cons (ds_setO rfl S.nd rfl (Or.inl rfl) (de_list da_nil)) (dss_cons (ds_for rfl po rfl (di_range1 rfl T.b_range (de_mod (de_callTy call_int1 cb_int rfl T.b_int bt_int (da_consC (de_call (ok__law_drawn T) (hr.mono (by decide)) rfl T.m__law_drawn T.k__law_drawn T.bd__law_drawn tk (da_cons (de_var (pv 0) rfl) (da_cons (de_var (pv 1) rfl) da_nil)) (fun env ds h => by obtain ⟨_, r0, rfl, h0⟩ := aLen_cons h; obtain ⟨_, r1, rfl, h1⟩ := aLen_cons h0; cases h1; rfl)) da_nil)) de_int)) (dg_name (i := 4) S.nd rfl (Or.inl rfl)) (dss_cons (ds_set rfl S.nd rfl (Or.inl rfl) (de_call (ok__law_drawn T) (hr.mono (by decide)) rfl T.m__law_drawn T.k__law_drawn T.bd__law_drawn tk (da_cons (de_var (pv 0) rfl) (da_cons (de_add (de_add (de_var (pv 1) rfl) de_int) (de_var (pv 4) rfl)) da_nil)) (fun env ds h => by obtain ⟨_, r0, rfl, h0⟩ := aLen_cons h; obtain ⟨_, r1, rfl, h1⟩ := aLen_cons h0; cases h1; rfl))) (dss_cons (ds_append rfl rfl (pv 3) (de_ix (de_list (da_cons (de_mod (de_callTy call_int1 cb_int rfl T.b_int bt_int (da_consC (de_fdiv (de_var (pv 5) rfl) de_int) da_nil)) (de_callB call_len cb_len rfl T.b_len bt_len (da_consC (de_var (pv 2) rfl) da_nil))) (da_cons de_non da_nil))) (de_callTy call_int1 cb_int rfl T.b_int bt_int (da_consC (de_eq hr.units (de_mod (de_callTy call_int1 cb_int rfl T.b_int bt_int (da_consC (de_var (pv 5) rfl) da_nil)) de_int) de_int) da_nil)) (fun _ _ => rfl))) (dss_weakR (N := [.fz, .fz, .fz, .ow, .un, .un]) rfl dss_nil)))) (dss_one (ds_retO (i := 3) rfl rfl (pv 3)))))
set_option maxHeartbeats 4000000 in
theorem ok__law_sizes (T : Txt K mg) : FnOk P w K mg base (L2.CX P w) 1 T.f__law_sizes T.fd__law_sizes p__law_sizes (spD .fr mg 1 m__law_sizes) :=
  DL.Fun.okD (M1 := []) (k := 0) T.F__law_sizes sc__law_sizes (by decide) fun cdv A outer s H E hr =>
    have S := sc__law_sizes; have tk := @tkX P w K mg base n__law_sizes "_law_sizes" (defScope s__law_sizes) T.f__law_sizes cdv A outer s H E; have po := @poX P w K mg base n__law_sizes "_law_sizes" (defScope s__law_sizes) T.f__law_sizes cdv A outer s H E
    (dss_cons (ds_setO rfl S.nd rfl (Or.inr rfl) (de_list da_nil)) (dss_cons (ds_for rfl po rfl (di_seq (de_var (pv 0) rfl)) (dg_name (i := 2) S.nd rfl (Or.inl rfl)) (dss_cons (ds_append rfl rfl (pv 1) (de_ix (de_list (da_cons de_int (da_cons (de_callB (cr_sum rfl) cb_sum rfl T.b_sum bt_sum (da_consC (de_lc (own := [("k", 3)]) rfl S.nd (by decide) (DIS.of (di_seq (de_sl (de_var (pv 2) rfl) (do_some de_int) do_none))) (blkOk_by (N := n__law_sizes) (sc := (defScope s__law_sizes)) (by decide +kernel)) (fun _ _ _ _ _ => (dg_name (i := 3) S.nd rfl (Or.inl rfl))) (fun _ _ _ _ _ => (dts_one (dt_val (de_isi rfl T.b_isinstance bt_isinstance (de_var (pv 3) rfl) (pe_bltn rfl T.b_int bt_int rfl))))) (fun _ _ _ _ _ => (de_ix (de_varO (pv 1) rfl) (de_var (pv 3) rfl) (fun _ _ => rfl)))) da_nil)) da_nil))) (de_callTy call_int1 cb_int rfl T.b_int bt_int (da_consC (de_eq hr.units (de_ix (de_var (pv 2) rfl) de_int (fun _ _ => rfl)) de_str) da_nil)) (fun _ _ => rfl))) (dss_weakR (N := [.fz, .ow, .un, .un]) rfl dss_nil))) (dss_one (ds_retO (i := 1) rfl rfl (pv 1)))))
set_option maxHeartbeats 4000000 in
theorem ok__law_texts (T : Txt K mg) : FnOk P w K mg base (L2.CX P w) 2 T.f__law_texts T.fd__law_texts p__law_texts (spD .fr mg 2 m__law_texts) :=
  DL.Fun.okD (M1 := []) (k := 1) T.F__law_texts sc__law_texts (by decide) fun cdv A outer s H E hr =>
    have S := sc__law_texts; have tk := @tkX P w K mg base n__law_texts "_law_texts" (defScope s__law_texts) T.f__law_texts cdv A outer s H E; have po := @poX P w K mg base n__law_texts "_law_texts" (defScope s__law_texts) T.f__law_texts cdv A outer s H E
    (dss_cons (ds_setO rfl S.nd rfl (Or.inl rfl) (de_list da_nil)) (dss_cons (ds_set rfl S.nd rfl (Or.inl rfl) (DE.pl (de_call (ok__law_sizes T) (hr.mono (by decide)) rfl T.m__law_sizes T.k__law_sizes T.bd__law_sizes tk (da_cons (de_var (pv 0) rfl) da_nil) (fun env ds h => by obtain ⟨_, r0, rfl, h0⟩ := aLen_cons h; cases h0; rfl)))) (dss_cons (ds_for rfl po rfl (di_range1 rfl T.b_range (de_callB call_len cb_len rfl T.b_len bt_len (da_consC (de_var (pv 0) rfl) da_nil))) (dg_name (i := 4) S.nd rfl (Or.inl rfl)) (dss_cons (ds_set rfl S.nd rfl (Or.inl rfl) de_non) (dss_cons (ds_if rfl (dt_eq hr.units (de_ix (de_ix (de_var (pv 0) rfl) (de_var (pv 4) rfl) (fun _ _ => rfl)) de_int (fun _ _ => rfl)) de_str) (dss_one (ds_set rfl S.nd rfl (Or.inl rfl) (de_ix (de_ix (de_var (pv 0) rfl) (de_var (pv 4) rfl) (fun _ _ => rfl)) de_int (fun _ _ => rfl)))) (dss_one (ds_if rfl (dt_le (de_ix (de_var (pv 3) rfl) (de_var (pv 4) rfl) (fun _ _ => rfl)) (de_var (pv 1) rfl)) (dss_one (ds_set rfl S.nd rfl (Or.inl rfl) (de_add (de_ix (de_varO (pv 2) rfl) (de_ix (de_ix (de_var (pv 0) rfl) (de_var (pv 4) rfl) (fun _ _ => rfl)) de_int (fun _ _ => rfl)) (fun _ _ => rfl)) (de_ix (de_varO (pv 2) rfl) (de_ix (de_ix (de_var (pv 0) rfl) (de_var (pv 4) rfl) (fun _ _ => rfl)) de_int (fun _ _ => rfl)) (fun _ _ => rfl))))) dss_nil))) (dss_cons (ds_append rfl rfl (pv 2) (de_var (pv 5) rfl)) (dss_weakR (N := [.fz, .fz, .ow, .fz, .un, .un]) rfl dss_nil))))) (dss_one (ds_retO (i := 2) rfl rfl (pv 2))))))
set_option maxHeartbeats 4000000 in
theorem ok__law_due (T : Txt K mg) : FnOk P w K mg base (L2.CX P w) 1 T.f__law_due T.fd__law_due p__law_due (spD .pl mg 2 m__law_due) :=
  DL.Fun.okD (M1 := []) (k := 0) T.F__law_due sc__law_due (by decide) fun cdv A outer s H E hr =>
    have S := sc__law_due; have tk := @tkX P w K mg base n__law_due "_law_due" (defScope s__law_due) T.f__law_due cdv A outer s H E; have po := @poX P w K mg base n__law_due "_law_due" (defScope s__law_due) T.f__law_due cdv A outer s H E
    (dss_cons (ds_for rfl po rfl (di_range1 rfl T.b_range (de_callB (call_min2 rfl) cb_min rfl T.b_min bt_min (da_consC (de_callB call_len cb_len rfl T.b_len bt_len (da_consC (de_var (pv 0) rfl) da_nil)) (da_consC (de_callB call_len cb_len rfl T.b_len bt_len (da_consC (de_var (pv 1) rfl) da_nil)) da_nil)))) (dg_name (i := 2) S.nd rfl (Or.inl rfl)) (dss_cons (ds_if rfl (dt_ne hr.units (de_ix (de_var (pv 0) rfl) (de_var (pv 2) rfl) (fun _ _ => rfl)) (de_ix (de_var (pv 1) rfl) (de_var (pv 2) rfl) (fun _ _ => rfl))) (dss_one (ds_ret rfl rfl (de_var (pv 2) rfl))) dss_nil) (dss_weakR (N := [.fz, .fz, .un]) rfl dss_nil))) (dss_one (ds_ret rfl rfl (de_ix (de_list (da_cons de_non (da_cons (de_callB (call_min2 rfl) cb_min rfl T.b_min bt_min (da_consC (de_callB call_len cb_len rfl T.b_len bt_len (da_consC (de_var (pv 0) rfl) da_nil)) (da_consC (de_callB call_len cb_len rfl T.b_len bt_len (da_consC (de_var (pv 1) rfl) da_nil)) da_nil))) da_nil))) (de_callTy call_int1 cb_int rfl T.b_int bt_int (da_consC (de_ne hr.units (de_callB call_len cb_len rfl T.b_len bt_len (da_consC (de_var (pv 0) rfl) da_nil)) (de_callB call_len cb_len rfl T.b_len bt_len (da_consC (de_var (pv 1) rfl) da_nil))) da_nil)) (fun _ _ => rfl)))))
set_option maxHeartbeats 4000000 in
theorem ok__law_told (T : Txt K mg) : FnOk P w K mg base (L2.CX P w) 5 T.f__law_told T.fd__law_told p__law_told (spD .pl mg 3 m__law_told) :=
  DL.Fun.okD (M1 := []) (k := 4) T.F__law_told sc__law_told (by decide) fun cdv A outer s H E hr =>
    have S := sc__law_told; have tk := @tkX P w K mg base n__law_told "_law_told" (defScope s__law_told) T.f__law_told cdv A outer s H E; have po := @poX P w K mg base n__law_told "_law_told" (defScope s__law_told) T.f__law_told cdv A outer s H E
    (dss_one (ds_tryAs (Mt := [.fz, .fz, .fz, .un]) (M2 := []) (i := 3) (h := h_HouseError) rfl rfl S.nd rfl rfl ⟨rfl, rfl, .inl T.E_HouseError.g⟩ tk rfl (hh_HouseError T) rfl rfl (fun W pn xe tk po => (dss_one (ds_ret rfl rfl (de_call (ok_first_difference T) (hr.mono (by decide)) rfl T.m_first_difference T.k_first_difference T.bd_first_difference tk (da_cons (de_var (pv 0) rfl) (da_cons (de_var (pv 1) rfl) (da_cons (de_var (pv 2) rfl) da_nil))) (fun env ds h => by obtain ⟨_, r0, rfl, h0⟩ := aLen_cons h; obtain ⟨_, r1, rfl, h1⟩ := aLen_cons h0; obtain ⟨_, r2, rfl, h2⟩ := aLen_cons h1; cases h2; rfl))))) (fun cn dat a oe cls dd pn h1 h2 hz hf => by obtain ⟨C, hC, xk⟩ := xk_HouseError T cn cls h1 h2; exact (dss_one (ds_ret rfl rfl (de_tup (da_cons (de_add (de_ix (de_list (da_cons de_str (da_cons de_str da_nil))) (de_callTy call_int1 cb_int rfl T.b_int bt_int (da_consC (de_isE xk hz hf hC (kit_HouseError_OutOfRange T cn cls h1 h2 C hC) (pv 3) rfl rfl T.b_isinstance rfl T.E_OutOfRange.g) da_nil)) (fun _ _ => rfl)) (de_ix (de_list (da_cons de_str (da_cons de_str da_nil))) (de_callTy call_int1 cb_int rfl T.b_int bt_int (da_consC (de_isE xk hz hf hC (kit_HouseError_TooLong T cn cls h1 h2 C hC) (pv 3) rfl rfl T.b_isinstance rfl T.E_TooLong.g) da_nil)) (fun _ _ => rfl))) (da_cons (de_at xk.xf xk.na hz hf hC (pv 3) rfl) da_nil))))))))
set_option maxHeartbeats 4000000 in
theorem ok__law_chains (T : Txt K mg) : FnOk P w K mg base (L2.CX P w) 2 T.f__law_chains T.fd__law_chains p__law_chains (spD .pl mg 1 m__law_chains) :=
  DL.Fun.okD (M1 := []) (k := 1) T.F__law_chains sc__law_chains (by decide) fun cdv A outer s H E hr =>
    have S := sc__law_chains; have tk := @tkX P w K mg base n__law_chains "_law_chains" (defScope s__law_chains) T.f__law_chains cdv A outer s H E; have po := @poX P w K mg base n__law_chains "_law_chains" (defScope s__law_chains) T.f__law_chains cdv A outer s H E
    (dss_cons (ds_set rfl S.nd rfl (Or.inl rfl) (de_add de_int (de_mod (de_callTy call_int1 cb_int rfl T.b_int bt_int (da_consC (de_ix (de_var (pv 0) rfl) de_int (fun _ _ => rfl)) da_nil)) de_int))) (dss_cons (ds_set rfl S.nd rfl (Or.inl rfl) (de_join de_str (de_lc (own := [("k", 7)]) rfl S.nd (by decide) (DIS.of (di_range1 rfl T.b_range (de_var (pv 1) rfl))) (blkOk_by (N := n__law_chains) (sc := (defScope s__law_chains)) (by decide +kernel)) (fun _ _ _ _ _ => (dg_name (i := 7) S.nd rfl (Or.inl rfl))) (fun _ _ _ _ _ => dts_nil) (fun _ _ _ _ _ => (de_ix de_str (de_mod (de_callTy call_int1 cb_int rfl T.b_int bt_int (da_consC (de_call (ok__law_drawn T) (hr.mono (by decide)) rfl T.m__law_drawn T.k__law_drawn T.bd__law_drawn takes0 (da_cons (de_var (pv 0) rfl) (da_cons (de_add de_int (de_var (pv 7) rfl)) da_nil)) (fun env ds h => by obtain ⟨_, r0, rfl, h0⟩ := aLen_cons h; obtain ⟨_, r1, rfl, h1⟩ := aLen_cons h0; cases h1; rfl)) da_nil)) de_int) (fun _ _ => rfl)))))) (dss_cons (ds_set rfl S.nd rfl (Or.inl rfl) (de_mod (de_callTy call_int1 cb_int rfl T.b_int bt_int (da_consC (de_ix (de_var (pv 0) rfl) de_int (fun _ _ => rfl)) da_nil)) (de_var (pv 1) rfl))) (dss_cons (ds_set rfl S.nd rfl (Or.inl rfl) (DE.pl (de_list (da_cons (de_var (pv 2) rfl) (da_cons (de_var (pv 2) rfl) (da_cons (de_add (de_add (de_sl (de_var (pv 2) rfl) do_none (do_some (de_var (pv 3) rfl))) (de_ix de_str (de_callTy call_int1 cb_int rfl T.b_int bt_int (da_consC (de_eq hr.units (de_ix (de_var (pv 2) rfl) (de_var (pv 3) rfl) (fun _ _ => rfl)) de_str) da_nil)) (fun _ _ => rfl))) (de_sl (de_var (pv 2) rfl) (do_some (de_add (de_var (pv 3) rfl) de_int)) do_none)) (da_cons (de_sl (de_var (pv 2) rfl) do_none (do_some (de_var (pv 3) rfl))) da_nil))))))) (dss_cons (ds_setO rfl S.nd rfl (Or.inl rfl) (de_list (da_cons (de_tup (da_cons de_str (da_cons de_str da_nil))) (da_cons (de_tup (da_cons de_str (da_cons de_str da_nil))) da_nil)))) (dss_cons (ds_set rfl S.nd rfl (Or.inl rfl) (DE.pl (de_list da_nil))) (dss_cons (ds_for rfl po rfl (di_range1 rfl T.b_range de_int) (dg_name (i := 7) S.nd rfl (Or.inl rfl)) (dss_cons (ds_setLc (i := 8) rfl (own := [("char", 11)]) rfl S.nd (by decide) (DIS.of (di_seq (de_ix (de_var (pv 4) rfl) (de_var (pv 7) rfl) (fun _ _ => rfl)))) (blkOk_by (N := n__law_chains) (sc := (defScope s__law_chains)) (by decide +kernel)) (fun _ _ _ _ _ => (dg_name (i := 11) S.nd rfl (Or.inl rfl))) (fun _ _ _ _ _ => dts_nil) (fun _ _ _ _ _ => (de_index (hr65 hr) (de_list (da_cons de_str (da_cons de_str da_nil))) (de_var (pv 11) rfl)))) (dss_freeze 8 rfl (dss_cons (ds_while wfuel rfl po (dt_gt (de_callB call_len cb_len rfl T.b_len bt_len (da_consC (de_var (pv 8) rfl) da_nil)) de_int) (dss_cons (ds_set rfl S.nd rfl (Or.inl rfl) (de_ix (de_list (da_cons de_int (da_cons (de_sub (de_callB call_len cb_len rfl T.b_len bt_len (da_consC (de_var (pv 8) rfl) da_nil)) de_int) da_nil))) (de_mod (de_callTy call_int1 cb_int rfl T.b_int bt_int (da_consC (de_var (pv 7) rfl) da_nil)) de_int) (fun _ _ => rfl))) (dss_cons (ds_set rfl S.nd rfl (Or.inl rfl) (de_tup (da_cons de_str (da_cons (de_ix (de_var (pv 8) rfl) (de_var (pv 9) rfl) (fun _ _ => rfl)) (da_cons (de_ix (de_var (pv 8) rfl) (de_add (de_var (pv 9) rfl) de_int) (fun _ _ => rfl)) da_nil))))) (dss_cons (ds_if rfl (dt_notIn (hr65 hr) (de_var (pv 10) rfl) (de_varO (pv 5) rfl)) (dss_one (ds_append rfl rfl (pv 5) (de_var (pv 10) rfl))) dss_nil) (dss_cons (ds_set rfl S.nd rfl (Or.inl rfl) (de_add (de_add (de_sl (de_var (pv 8) rfl) do_none (do_some (de_var (pv 9) rfl))) (de_list (da_cons (de_index (hr65 hr) (de_varO (pv 5) rfl) (de_var (pv 10) rfl)) da_nil))) (de_sl (de_var (pv 8) rfl) (do_some (de_add (de_var (pv 9) rfl) de_int)) do_none))) (dss_weakR (N := [.fz, .fz, .fz, .fz, .fz, .ow, .fz, .fz, .fz, .un, .un, .un]) rfl dss_nil)))))) (dss_cons (ds_set rfl S.nd rfl (Or.inl rfl) (de_add (de_var (pv 6) rfl) (de_var (pv 8) rfl))) (dss_weakR (N := [.fz, .fz, .fz, .fz, .fz, .ow, .fz, .un, .un, .un, .un, .un]) rfl dss_nil)))))) (dss_freeze 5 rfl (dss_one (ds_ret rfl rfl (de_tup (da_cons (de_var (pv 5) rfl) (da_cons (de_var (pv 6) rfl) (da_cons (de_sl (de_var (pv 4) rfl) do_none (do_some (de_callB call_len cb_len rfl T.b_len bt_len (da_consC (de_var (pv 6) rfl) da_nil)))) da_nil))))))))))))))
set_option maxHeartbeats 4000000 in
theorem body_law (T : Txt K mg) (fa : Addr) : ∀ (base : Heap) (cdv : Value) (s : Shared) (H : Hp), K.In base → base.Ns mainGlobals mg →
    DSs (cxOf (L2.CX P w) P w K mg base n_law "law" (defScope s_law) fa cdv callerA [] s H fun _ _ _ => False) ⟨wE fun _ _ _ => False, mg, none⟩ ⟨[], [], .pl⟩ (mode0 n_law.length 1) [] (defBody s_law) o_law := fun base cdv s H _ _ =>
    have hr0 : Room 6 callerA := ⟨rfl, by decide, by decide⟩; have hr := hr0.deeper (PyProof.Rows.envOfC "law" (defScope s_law) s.heap.objs.size fa cdv)
    have S := sc_law; have tk := @tkX P w K mg base n_law "law" (defScope s_law) fa cdv callerA [] s H (fun _ _ _ => False); have po := @poX P w K mg base n_law "law" (defScope s_law) fa cdv callerA [] s H (fun _ _ _ => False)
    (dss_cons (ds_set rfl S.nd rfl (Or.inl rfl) (DE.pl (de_call (ok__law_numbers T) (hr.mono (by decide)) rfl T.m__law_numbers T.k__law_numbers T.bd__law_numbers tk (da_cons (de_var (pv 0) rfl) (da_cons de_int da_nil)) (fun env ds h => by obtain ⟨_, r0, rfl, h0⟩ := aLen_cons h; obtain ⟨_, r1, rfl, h1⟩ := aLen_cons h0; cases h1; rfl)))) (dss_cons (ds_set rfl S.nd rfl (Or.inl rfl) (DE.pl (de_call (ok__law_symbols T) (hr.mono (by decide)) rfl T.m__law_symbols T.k__law_symbols T.bd__law_symbols tk (da_cons (de_var (pv 1) rfl) (da_cons de_int (da_cons (de_ix (de_list (da_cons de_int (da_cons de_int da_nil))) (de_mod (de_callTy call_int1 cb_int rfl T.b_int bt_int (da_consC (de_ix (de_var (pv 1) rfl) de_int (fun _ _ => rfl)) da_nil)) de_int) (fun _ _ => rfl)) da_nil))) (fun env ds h => by obtain ⟨_, r0, rfl, h0⟩ := aLen_cons h; obtain ⟨_, r1, rfl, h1⟩ := aLen_cons h0; obtain ⟨_, r2, rfl, h2⟩ := aLen_cons h1; cases h2; rfl)))) (dss_cons (ds_set rfl S.nd rfl (Or.inl rfl) (de_tup (da_cons (de_var (pv 2) rfl) (da_cons (DE.pl (de_call (ok__law_roots T) (hr.mono (by decide)) rfl T.m__law_roots T.k__law_roots T.bd__law_roots tk (da_cons (de_var (pv 1) rfl) (da_cons de_int (da_cons (de_var (pv 2) rfl) da_nil))) (fun env ds h => by obtain ⟨_, r0, rfl, h0⟩ := aLen_cons h; obtain ⟨_, r1, rfl, h1⟩ := aLen_cons h0; obtain ⟨_, r2, rfl, h2⟩ := aLen_cons h1; cases h2; rfl))) da_nil)))) (dss_cons (ds_set rfl S.nd rfl (Or.inl rfl) (de_callB (call_reprD rfl (hr66 hr)) cb_repr rfl T.b_repr bt_repr (da_consC (de_var (pv 3) rfl) da_nil))) (dss_cons (ds_set rfl S.nd rfl (Or.inr rfl) (DE.pl (de_call (ok__law_sizes T) (hr.mono (by decide)) rfl T.m__law_sizes T.k__law_sizes T.bd__law_sizes tk (da_cons (de_var (pv 2) rfl) da_nil) (fun env ds h => by obtain ⟨_, r0, rfl, h0⟩ := aLen_cons h; cases h0; rfl)))) (dss_cons (ds_set rfl S.nd rfl (Or.inl rfl) (DE.pl (de_call (ok__law_texts T) (hr.mono (by decide)) rfl T.m__law_texts T.k__law_texts T.bd__law_texts tk (da_cons (de_var (pv 2) rfl) (da_cons de_int da_nil)) (fun env ds h => by obtain ⟨_, r0, rfl, h0⟩ := aLen_cons h; obtain ⟨_, r1, rfl, h1⟩ := aLen_cons h0; cases h1; rfl)))) (dss_cons (ds_for rfl po rfl (di_range1 rfl T.b_range de_int) (dg_name (i := 7) S.nd rfl (Or.inl rfl)) (dss_cons (ds_set rfl S.nd rfl (Or.inl rfl) (de_mod (de_callTy call_int1 cb_int rfl T.b_int bt_int (da_consC (de_ix (de_var (pv 1) rfl) (de_add de_int (de_var (pv 7) rfl)) (fun _ _ => rfl)) da_nil)) (de_callB call_len cb_len rfl T.b_len bt_len (da_consC (de_var (pv 2) rfl) da_nil)))) (dss_cons (ds_set rfl S.nd rfl (Or.inl rfl) (de_mod (de_callTy call_int1 cb_int rfl T.b_int bt_int (da_consC (de_ix (de_var (pv 1) rfl) (de_add de_int (de_var (pv 7) rfl)) (fun _ _ => rfl)) da_nil)) (de_callB call_len cb_len rfl T.b_len bt_len (da_consC (de_var (pv 2) rfl) da_nil)))) (dss_cons (ds_for rfl po rfl (di_seq (DE.pl (de_list (da_cons (de_tup (da_cons (de_var (pv 11) rfl) (da_cons (de_var (pv 12) rfl) da_nil))) (da_cons (de_tup (da_cons (de_var (pv 12) rfl) (da_cons (de_var (pv 11) rfl) da_nil))) (da_cons (de_tup (da_cons (de_var (pv 11) rfl) (da_cons (de_var (pv 11) rfl) da_nil))) da_nil)))))) (dg_tup rfl (dgs_cons (dg_name (i := 18) S.nd rfl (Or.inl rfl)) (dgs_cons (dg_name (i := 19) S.nd rfl (Or.inl rfl)) dgs_nil))) (dss_cons (ds_setLc (i := 20) rfl (own := [("k", 22)]) rfl S.nd (by decide) (DIS.of (di_seq (DE.pl (de_list (da_cons (de_var (pv 18) rfl) (da_cons (de_var (pv 19) rfl) da_nil)))))) (blkOk_by (N := n_law) (sc := (defScope s_law)) (by decide +kernel)) (fun _ _ _ _ _ => (dg_name (i := 22) S.nd rfl (Or.inl rfl))) (fun _ _ _ _ _ => (dts_one (dt_gt (de_ix (de_var (pv 5) rfl) (de_var (pv 22) rfl) (fun _ _ => rfl)) de_int))) (fun _ _ _ _ _ => (de_ix (de_var (pv 5) rfl) (de_var (pv 22) rfl) (fun _ _ => rfl)))) (dss_freeze 20 rfl (dss_cons (ds_set rfl S.nd rfl (Or.inl rfl) (de_tup (da_cons de_str (da_cons (de_ix (de_add (de_var (pv 20) rfl) (de_list (da_cons de_int da_nil))) de_int (fun _ _ => rfl)) da_nil)))) (dss_cons (ds_if rfl (dt_eq hr.units (de_var (pv 20) rfl) (de_list da_nil)) (dss_one (ds_set rfl S.nd rfl (Or.inl rfl) (de_call (ok__law_due T) (hr.mono (by decide)) rfl T.m__law_due T.k__law_due T.bd__law_due tk (da_cons (de_ix (de_var (pv 6) rfl) (de_var (pv 18) rfl) (fun _ _ => rfl)) (da_cons (de_ix (de_var (pv 6) rfl) (de_var (pv 19) rfl) (fun _ _ => rfl)) da_nil)) (fun env ds h => by obtain ⟨_, r0, rfl, h0⟩ := aLen_cons h; obtain ⟨_, r1, rfl, h1⟩ := aLen_cons h0; cases h1; rfl)))) dss_nil) (dss_cons (ds_if rfl (dt_ne hr.units (de_callB (call_reprD rfl (hr66 hr)) cb_repr rfl T.b_repr bt_repr (da_consC (de_call (ok__law_told T) (hr.mono (by decide)) rfl T.m__law_told T.k__law_told T.bd__law_told tk (da_cons (de_var (pv 3) rfl) (da_cons (de_var (pv 18) rfl) (da_cons (de_var (pv 19) rfl) da_nil))) (fun env ds h => by obtain ⟨_, r0, rfl, h0⟩ := aLen_cons h; obtain ⟨_, r1, rfl, h1⟩ := aLen_cons h0; obtain ⟨_, r2, rfl, h2⟩ := aLen_cons h1; cases h2; rfl)) da_nil)) (de_callB (call_reprD rfl (hr66 hr)) cb_repr rfl T.b_repr bt_repr (da_consC (de_var (pv 13) rfl) da_nil))) (dss_one (ds_ret rfl rfl de_bl)) dss_nil) (dss_weakR (N := [.fz, .fz, .fz, .fz, .fz, .fz, .fz, .fz, .un, .un, .un, .fz, .fz, .un, .un, .un, .un, .un, .un, .un, .un, .un, .un]) rfl dss_nil))))))) (dss_weakR (N := [.fz, .fz, .fz, .fz, .fz, .fz, .fz, .un, .un, .un, .un, .un, .un, .un, .un, .un, .un, .un, .un, .un, .un, .un, .un]) rfl dss_nil))))) (dss_cons (ds_for rfl po rfl (di_seq (DE.pl (de_list (da_cons (de_tup (da_cons (de_neg de_int) (da_cons de_int (da_cons (de_neg de_int) da_nil)))) (da_cons (de_tup (da_cons de_int (da_cons (de_callB call_len cb_len rfl T.b_len bt_len (da_consC (de_var (pv 2) rfl) da_nil)) (da_cons (de_callB call_len cb_len rfl T.b_len bt_len (da_consC (de_var (pv 2) rfl) da_nil)) da_nil)))) (da_cons (de_tup (da_cons (de_add (de_callB call_len cb_len rfl T.b_len bt_len (da_consC (de_var (pv 2) rfl) da_nil)) de_int) (da_cons (de_neg de_int) (da_cons (de_add (de_callB call_len cb_len rfl T.b_len bt_len (da_consC (de_var (pv 2) rfl) da_nil)) de_int) da_nil)))) da_nil)))))) (dg_tup rfl (dgs_cons (dg_name (i := 11) S.nd rfl (Or.inl rfl)) (dgs_cons (dg_name (i := 12) S.nd rfl (Or.inl rfl)) (dgs_cons (dg_name (i := 13) S.nd rfl (Or.inl rfl)) dgs_nil)))) (dss_cons (ds_if rfl (dt_ne hr.units (de_call (ok__law_told T) (hr.mono (by decide)) rfl T.m__law_told T.k__law_told T.bd__law_told tk (da_cons (de_var (pv 3) rfl) (da_cons (de_var (pv 11) rfl) (da_cons (de_var (pv 12) rfl) da_nil))) (fun env ds h => by obtain ⟨_, r0, rfl, h0⟩ := aLen_cons h; obtain ⟨_, r1, rfl, h1⟩ := aLen_cons h0; obtain ⟨_, r2, rfl, h2⟩ := aLen_cons h1; cases h2; rfl)) (de_tup (da_cons de_str (da_cons (de_var (pv 13) rfl) da_nil)))) (dss_one (ds_ret rfl rfl de_bl)) dss_nil) (dss_weakR (N := [.fz, .fz, .fz, .fz, .fz, .fz, .fz, .un, .un, .un, .un, .un, .un, .un, .un, .un, .un, .un, .un, .un, .un, .un, .un]) rfl dss_nil))) (dss_cons (ds_asg rfl (de_call (ok__law_chains T) (hr.mono (by decide)) rfl T.m__law_chains T.k__law_chains T.bd__law_chains tk (da_cons (de_var (pv 1) rfl) da_nil) (fun env ds h => by obtain ⟨_, r0, rfl, h0⟩ := aLen_cons h; cases h0; rfl)) (dg_tup rfl (dgs_cons (dg_name (i := 14) S.nd rfl (Or.inl rfl)) (dgs_cons (dg_name (i := 15) S.nd rfl (Or.inl rfl)) (dgs_cons (dg_name (i := 16) S.nd rfl (Or.inl rfl)) dgs_nil))))) (dss_cons (ds_if rfl (dt_lt (de_callB call_len cb_len rfl T.b_len bt_len (da_consC (de_var (pv 14) rfl) da_nil)) de_int) (dss_one (ds_for rfl po rfl (di_range1 rfl T.b_range (de_callB call_len cb_len rfl T.b_len bt_len (da_consC (de_var (pv 15) rfl) da_nil))) (dg_name (i := 17) S.nd rfl (Or.inl rfl)) (dss_cons (ds_for rfl po rfl (di_range1 rfl T.b_range (de_callB call_len cb_len rfl T.b_len bt_len (da_consC (de_var (pv 15) rfl) da_nil))) (dg_name (i := 21) S.nd rfl (Or.inl rfl)) (dss_cons (ds_if rfl (dt_ne hr.units (de_callB (call_reprD rfl (hr66 hr)) cb_repr rfl T.b_repr bt_repr (da_consC (de_call (ok__law_told T) (hr.mono (by decide)) rfl T.m__law_told T.k__law_told T.bd__law_told tk (da_cons (de_tup (da_cons (de_var (pv 14) rfl) (da_cons (de_var (pv 15) rfl) da_nil))) (da_cons (de_ix (de_var (pv 15) rfl) (de_var (pv 17) rfl) (fun _ _ => rfl)) (da_cons (de_ix (de_var (pv 15) rfl) (de_var (pv 21) rfl) (fun _ _ => rfl)) da_nil))) (fun env ds h => by obtain ⟨_, r0, rfl, h0⟩ := aLen_cons h; obtain ⟨_, r1, rfl, h1⟩ := aLen_cons h0; obtain ⟨_, r2, rfl, h2⟩ := aLen_cons h1; cases h2; rfl)) da_nil)) (de_callB (call_reprD rfl (hr66 hr)) cb_repr rfl T.b_repr bt_repr (da_consC (de_call (ok__law_due T) (hr.mono (by decide)) rfl T.m__law_due T.k__law_due T.bd__law_due tk (da_cons (de_ix (de_var (pv 16) rfl) (de_var (pv 17) rfl) (fun _ _ => rfl)) (da_cons (de_ix (de_var (pv 16) rfl) (de_var (pv 21) rfl) (fun _ _ => rfl)) da_nil)) (fun env ds h => by obtain ⟨_, r0, rfl, h0⟩ := aLen_cons h; obtain ⟨_, r1, rfl, h1⟩ := aLen_cons h0; cases h1; rfl)) da_nil))) (dss_one (ds_ret rfl rfl de_bl)) dss_nil) (dss_weakR (N := [.fz, .fz, .fz, .fz, .fz, .fz, .fz, .un, .un, .un, .un, .un, .un, .un, .fz, .fz, .fz, .fz, .un, .un, .un, .un, .un]) rfl dss_nil))) (dss_weakR (N := [.fz, .fz, .fz, .fz, .fz, .fz, .fz, .un, .un, .un, .un, .un, .un, .un, .fz, .fz, .fz, .un, .un, .un, .un, .un, .un]) rfl dss_nil)))) dss_nil) (dss_cons (ds_setO rfl S.nd rfl (Or.inl rfl) (de_list (da_cons (de_tup (da_cons de_str (da_cons de_str da_nil))) da_nil))) (dss_cons (ds_set rfl S.nd rfl (Or.inl rfl) de_int) (dss_cons (ds_for rfl po rfl (di_seq (DE.pl (de_list (da_cons de_int (da_cons de_int (da_cons de_int (da_cons de_int (da_cons de_int (da_cons de_int (da_cons de_int (da_cons de_int (da_cons de_int (da_cons de_int (da_cons de_int da_nil)))))))))))))) (dg_name (i := 10) S.nd rfl (Or.inl rfl)) (dss_cons (ds_append rfl rfl (pv 8) (de_tup (da_cons de_str (da_cons (de_var (pv 9) rfl) (da_cons (de_var (pv 9) rfl) da_nil))))) (dss_cons (ds_set rfl S.nd rfl (Or.inl rfl) (de_sub (de_callB call_len cb_len rfl T.b_len bt_len (da_consC (de_varO (pv 8) rfl) da_nil)) de_int)) (dss_cons (ds_if rfl (dt_eq hr.units (de_var (pv 10) rfl) de_int) (dss_cons (ds_append rfl rfl (pv 8) (de_tup (da_cons de_str (da_cons (de_var (pv 9) rfl) (da_cons de_int da_nil))))) (dss_one (ds_set rfl S.nd rfl (Or.inl rfl) (de_sub (de_callB call_len cb_len rfl T.b_len bt_len (da_consC (de_varO (pv 8) rfl) da_nil)) de_int)))) dss_nil) (dss_weakR (N := [.fz, .fz, .fz, .fz, .fz, .fz, .fz, .un, .ow, .fz, .un, .un, .un, .un, .fz, .fz, .fz, .un, .un, .un, .un, .un, .un]) rfl dss_nil))))) (dss_freeze 8 rfl (dss_cons (ds_for rfl po rfl (di_seq (DE.pl (de_list (da_cons (de_tup (da_cons (de_sub (de_var (pv 9) rfl) de_int) (da_cons (de_sub (de_var (pv 9) rfl) de_int) (da_cons de_non da_nil)))) (da_cons (de_tup (da_cons (de_sub (de_var (pv 9) rfl) de_int) (da_cons (de_var (pv 9) rfl) (da_cons (de_tup (da_cons de_str (da_cons de_int da_nil))) da_nil)))) (da_cons (de_tup (da_cons (de_var (pv 9) rfl) (da_cons (de_sub (de_var (pv 9) rfl) de_int) (da_cons (de_tup (da_cons de_str (da_cons de_int da_nil))) da_nil)))) (da_cons (de_tup (da_cons (de_sub (de_var (pv 9) rfl) de_int) (da_cons (de_sub (de_var (pv 9) rfl) de_int) (da_cons de_int da_nil)))) da_nil))))))) (dg_tup rfl (dgs_cons (dg_name (i := 11) S.nd rfl (Or.inl rfl)) (dgs_cons (dg_name (i := 12) S.nd rfl (Or.inl rfl)) (dgs_cons (dg_name (i := 13) S.nd rfl (Or.inl rfl)) dgs_nil)))) (dss_cons (ds_if rfl (dt_ne hr.units (de_callB (call_reprD rfl (hr66 hr)) cb_repr rfl T.b_repr bt_repr (da_consC (de_call (ok__law_told T) (hr.mono (by decide)) rfl T.m__law_told T.k__law_told T.bd__law_told tk (da_cons (de_tup (da_cons (de_var (pv 8) rfl) (da_cons (DE.pl (de_list (da_cons (de_var (pv 9) rfl) da_nil))) da_nil))) (da_cons (de_var (pv 11) rfl) (da_cons (de_var (pv 12) rfl) da_nil))) (fun env ds h => by obtain ⟨_, r0, rfl, h0⟩ := aLen_cons h; obtain ⟨_, r1, rfl, h1⟩ := aLen_cons h0; obtain ⟨_, r2, rfl, h2⟩ := aLen_cons h1; cases h2; rfl)) da_nil)) (de_callB (call_reprD rfl (hr66 hr)) cb_repr rfl T.b_repr bt_repr (da_consC (de_var (pv 13) rfl) da_nil))) (dss_one (ds_ret rfl rfl de_bl)) dss_nil) (dss_weakR (N := [.fz, .fz, .fz, .fz, .fz, .fz, .fz, .un, .fz, .fz, .un, .un, .un, .un, .fz, .fz, .fz, .un, .un, .un, .un, .un, .un]) rfl dss_nil))) (dss_one (ds_ret rfl rfl (de_eq hr.units (de_callB (call_reprD rfl (hr66 hr)) cb_repr rfl T.b_repr bt_repr (da_consC (de_var (pv 3) rfl) da_nil)) (de_var (pv 4) rfl)))))))))))))))))))
end
theorem all_mk {P : Program} {w : World} {K : PySem.W.Frag} {h : Heap} {mg : Str → Option Value} {fa : Addr} {fI : Addr} {odI anI : Option Addr} {slI : Array (Option Value)} {ocI kVI dcI pmI cdI ctI : Value} {C_HouseError : Addr} {nm_HouseError q_HouseError : Str} {N_HouseError k0_HouseError k1_HouseError k2_HouseError k3_HouseError k5_HouseError : _} {bs_HouseError bm_HouseError : _} {sn_HouseError sub_HouseError ab_HouseError col_HouseError dd_HouseError : _} {C_OutOfRange : Addr} {nm_OutOfRange q_OutOfRange : Str} {N_OutOfRange k0_OutOfRange k1_OutOfRange k2_OutOfRange k3_OutOfRange k5_OutOfRange : _} {bs_OutOfRange bm_OutOfRange : _} {sn_OutOfRange sub_OutOfRange ab_OutOfRange col_OutOfRange dd_OutOfRange : _} {C_TooLong : Addr} {nm_TooLong q_TooLong : Str} {N_TooLong k0_TooLong k1_TooLong k2_TooLong k3_TooLong k5_TooLong : _} {bs_TooLong bm_TooLong : _} {sn_TooLong sub_TooLong ab_TooLong col_TooLong dd_TooLong : _} {f_check_symbol : Addr} {od_check_symbol an_check_symbol : Option Addr} {sl_check_symbol : Array (Option Value)} {oc_check_symbol kV_check_symbol dc_check_symbol pm_check_symbol cd_check_symbol ct_check_symbol : Value} {f_sizes : Addr} {od_sizes an_sizes : Option Addr} {sl_sizes : Array (Option Value)} {oc_sizes kV_sizes dc_sizes pm_sizes cd_sizes ct_sizes : Value} {f_letters_from : Addr} {od_letters_from an_letters_from : Option Addr} {sl_letters_from : Array (Option Value)} {oc_letters_from kV_letters_from dc_letters_from pm_letters_from cd_letters_from ct_letters_from : Value} {f_first_difference : Addr} {od_first_difference an_first_difference : Option Addr} {sl_first_difference : Array (Option Value)} {oc_first_difference kV_first_difference dc_first_difference pm_first_difference cd_first_difference ct_first_difference : Value} {f__law_numbers : Addr} {od__law_numbers an__law_numbers : Option Addr} {sl__law_numbers : Array (Option Value)} {oc__law_numbers kV__law_numbers dc__law_numbers pm__law_numbers cd__law_numbers ct__law_numbers : Value} {f__law_drawn : Addr} {od__law_drawn an__law_drawn : Option Addr} {sl__law_drawn : Array (Option Value)} {oc__law_drawn kV__law_drawn dc__law_drawn pm__law_drawn cd__law_drawn ct__law_drawn : Value} {f__law_symbols : Addr} {od__law_symbols an__law_symbols : Option Addr} {sl__law_symbols : Array (Option Value)} {oc__law_symbols kV__law_symbols dc__law_symbols pm__law_symbols cd__law_symbols ct__law_symbols : Value} {f__law_roots : Addr} {od__law_roots an__law_roots : Option Addr} {sl__law_roots : Array (Option Value)} {oc__law_roots kV__law_roots dc__law_roots pm__law_roots cd__law_roots ct__law_roots : Value} {f__law_sizes : Addr} {od__law_sizes an__law_sizes : Option Addr} {sl__law_sizes : Array (Option Value)} {oc__law_sizes kV__law_sizes dc__law_sizes pm__law_sizes cd__law_sizes ct__law_sizes : Value} {f__law_texts : Addr} {od__law_texts an__law_texts : Option Addr} {sl__law_texts : Array (Option Value)} {oc__law_texts kV__law_texts dc__law_texts pm__law_texts cd__law_texts ct__law_texts : Value} {f__law_due : Addr} {od__law_due an__law_due : Option Addr} {sl__law_due : Array (Option Value)} {oc__law_due kV__law_due dc__law_due pm__law_due cd__law_due ct__law_due : Value} {f__law_told : Addr} {od__law_told an__law_told : Option Addr} {sl__law_told : Array (Option Value)} {oc__law_told kV__law_told dc__law_told pm__law_told cd__law_told ct__law_told : Value} {f__law_chains : Addr} {od__law_chains an__law_chains : Option Addr} {sl__law_chains : Array (Option Value)} {oc__law_chains kV__law_chains dc__law_chains pm__law_chains cd__law_chains ct__law_chains : Value} {f_law : Addr} {od_law an_law : Option Addr} {sl_law : Array (Option Value)} {oc_law kV_law dc_law pm_law cd_law ct_law : Value} {t_MOST_COMPARED : Tok} (X : K.In h) (G : h.Ns mainGlobals mg) (hfa : mg "law" = some (.ref fa))
    (a_HouseError : PySem.W.nsIn K mainGlobals "HouseError" = some (some (.ref C_HouseError)))
    (a_OutOfRange : PySem.W.nsIn K mainGlobals "OutOfRange" = some (some (.ref C_OutOfRange)))
    (a_TooLong : PySem.W.nsIn K mainGlobals "TooLong" = some (some (.ref C_TooLong)))
    (a_ini : PySem.W.findIn K (.ref C_HouseError) "__init__" = some (some (.ref fI)))
    (l_ini : K.lookup fI = some ⟨ocI, odI, .func (PySem.W.fnOf "__init__" "HouseError.__init__" (defArgs s_init) (defBody s_init) (defScope s_init) .none kVI dcI pmI anI cdI ctI), slI⟩)
    (c_ini : PySem.W.codeIn K cdI "HouseError.__init__" = true)
    (k_ini : PySem.W.keepIn K (.ref fI) = true)
    (t_ini : PySem.W.typeIn K (.ref fI) = some (.type "function"))
    (vV : PySem.W.findCls K (.type "ValueError") (.type "type") "__init__" = some (.val (.builtin "ValueError.__init__")))
    (cl_HouseError : K.lookup C_HouseError = some (PySem.excClassObj nm_HouseError q_HouseError C_HouseError N_HouseError bs_HouseError bm_HouseError true sn_HouseError sub_HouseError ab_HouseError col_HouseError dd_HouseError k0_HouseError k1_HouseError k2_HouseError k3_HouseError k5_HouseError "ValueError.__new__"))
    (bm_HouseErrorx : PySem.HandSPX.refsVE bm_HouseError = true)
    (sa_HouseError : PySem.W.findIn K (.ref C_HouseError) "__setattr__" = some (some (.builtin "object.__setattr__")))
    (ex_HouseError : PySem.W.subIn K (.ref C_HouseError) (.type "BaseException") = some true)
    (ty_HouseError : PySem.W.typeIn K (.ref C_HouseError) = some (.type "type"))
    (kc_HouseError : PySem.W.keepIn K (.ref C_HouseError) = true)
    (at_HouseError : PySem.W.findIn K (.ref C_HouseError) "at" = some none)
    (ga_HouseError : PySem.W.findIn K (.ref C_HouseError) "__getattribute__" = some (some (.builtin "BaseException.__getattribute__")))
    (gg_HouseError : PySem.W.findIn K (.ref C_HouseError) "__getattr__" = some none)
    (hd_HouseError : PySem.W.hasDictIn K C_HouseError = true)
    (ca_HouseError : PySem.W.findIn K (.ref C_HouseError) "__class__" = some (some (.builtin "object.__class__")))
    (mo_HouseError : PySem.W.mroIn K C_HouseError (.type "object") = some true)
    (cl_OutOfRange : K.lookup C_OutOfRange = some (PySem.excClassObj nm_OutOfRange q_OutOfRange C_OutOfRange N_OutOfRange bs_OutOfRange bm_OutOfRange true sn_OutOfRange sub_OutOfRange ab_OutOfRange col_OutOfRange dd_OutOfRange k0_OutOfRange k1_OutOfRange k2_OutOfRange k3_OutOfRange k5_OutOfRange "ValueError.__new__"))
    (bm_OutOfRangex : PySem.HandSPX.refsVE bm_OutOfRange = true)
    (sa_OutOfRange : PySem.W.findIn K (.ref C_OutOfRange) "__setattr__" = some (some (.builtin "object.__setattr__")))
    (ex_OutOfRange : PySem.W.subIn K (.ref C_OutOfRange) (.type "BaseException") = some true)
    (ty_OutOfRange : PySem.W.typeIn K (.ref C_OutOfRange) = some (.type "type"))
    (kc_OutOfRange : PySem.W.keepIn K (.ref C_OutOfRange) = true)
    (in_OutOfRange : PySem.W.findIn K (.ref C_OutOfRange) "__init__" = some (some (.ref fI)))
    (at_OutOfRange : PySem.W.findIn K (.ref C_OutOfRange) "at" = some none)
    (ga_OutOfRange : PySem.W.findIn K (.ref C_OutOfRange) "__getattribute__" = some (some (.builtin "BaseException.__getattribute__")))
    (gg_OutOfRange : PySem.W.findIn K (.ref C_OutOfRange) "__getattr__" = some none)
    (hd_OutOfRange : PySem.W.hasDictIn K C_OutOfRange = true)
    (ca_OutOfRange : PySem.W.findIn K (.ref C_OutOfRange) "__class__" = some (some (.builtin "object.__class__")))
    (mo_OutOfRange : PySem.W.mroIn K C_OutOfRange (.type "object") = some true)
    (cl_TooLong : K.lookup C_TooLong = some (PySem.excClassObj nm_TooLong q_TooLong C_TooLong N_TooLong bs_TooLong bm_TooLong true sn_TooLong sub_TooLong ab_TooLong col_TooLong dd_TooLong k0_TooLong k1_TooLong k2_TooLong k3_TooLong k5_TooLong "ValueError.__new__"))
    (bm_TooLongx : PySem.HandSPX.refsVE bm_TooLong = true)
    (sa_TooLong : PySem.W.findIn K (.ref C_TooLong) "__setattr__" = some (some (.builtin "object.__setattr__")))
    (ex_TooLong : PySem.W.subIn K (.ref C_TooLong) (.type "BaseException") = some true)
    (ty_TooLong : PySem.W.typeIn K (.ref C_TooLong) = some (.type "type"))
    (kc_TooLong : PySem.W.keepIn K (.ref C_TooLong) = true)
    (in_TooLong : PySem.W.findIn K (.ref C_TooLong) "__init__" = some (some (.ref fI)))
    (at_TooLong : PySem.W.findIn K (.ref C_TooLong) "at" = some none)
    (ga_TooLong : PySem.W.findIn K (.ref C_TooLong) "__getattribute__" = some (some (.builtin "BaseException.__getattribute__")))
    (gg_TooLong : PySem.W.findIn K (.ref C_TooLong) "__getattr__" = some none)
    (hd_TooLong : PySem.W.hasDictIn K C_TooLong = true)
    (ca_TooLong : PySem.W.findIn K (.ref C_TooLong) "__class__" = some (some (.builtin "object.__class__")))
    (mo_TooLong : PySem.W.mroIn K C_TooLong (.type "object") = some true)
    (spx : PySem.W.specialIn K (.builtin "object.__class__") "__get__" = some (some (.builtin "getset_descriptor.__get__")))
    (tkx : PySem.W.takesIn K (.builtin "object.__class__") = some true)
    (s_HouseError_HouseError : PySem.W.subIn K (.ref C_HouseError) (.ref C_HouseError) = some true)
    (s_OutOfRange_HouseError : PySem.W.subIn K (.ref C_OutOfRange) (.ref C_HouseError) = some true)
    (s_TooLong_HouseError : PySem.W.subIn K (.ref C_TooLong) (.ref C_HouseError) = some true)
    (s_HouseError_OutOfRange : PySem.W.subIn K (.ref C_HouseError) (.ref C_OutOfRange) = some false)
    (s_OutOfRange_OutOfRange : PySem.W.subIn K (.ref C_OutOfRange) (.ref C_OutOfRange) = some true)
    (s_TooLong_OutOfRange : PySem.W.subIn K (.ref C_TooLong) (.ref C_OutOfRange) = some false)
    (s_HouseError_TooLong : PySem.W.subIn K (.ref C_HouseError) (.ref C_TooLong) = some false)
    (s_OutOfRange_TooLong : PySem.W.subIn K (.ref C_OutOfRange) (.ref C_TooLong) = some false)
    (s_TooLong_TooLong : PySem.W.subIn K (.ref C_TooLong) (.ref C_TooLong) = some true)
    (n_HouseError_OutOfRange : (Value.ref C_HouseError == Value.ref C_OutOfRange) = false)
    (n_TooLong_OutOfRange : (Value.ref C_TooLong == Value.ref C_OutOfRange) = false)
    (n_HouseError_TooLong : (Value.ref C_HouseError == Value.ref C_TooLong) = false)
    (n_OutOfRange_TooLong : (Value.ref C_OutOfRange == Value.ref C_TooLong) = false)
    (z_ValueError : PySem.W.nsIn K mainGlobals "ValueError" = some none)
    (a_check_symbol : PySem.W.nsIn K mainGlobals "check_symbol" = some (some (.ref f_check_symbol)))
    (l_check_symbol : K.lookup f_check_symbol = some ⟨oc_check_symbol, od_check_symbol, .func (PySem.W.fnOf "check_symbol" "check_symbol" (defArgs s_check_symbol) (defBody s_check_symbol) (defScope s_check_symbol) .none kV_check_symbol dc_check_symbol pm_check_symbol an_check_symbol cd_check_symbol ct_check_symbol), sl_check_symbol⟩)
    (c_check_symbol : PySem.W.codeIn K cd_check_symbol "check_symbol" = true)
    (k_check_symbol : PySem.W.keepIn K (.ref f_check_symbol) = true)
    (a_sizes : PySem.W.nsIn K mainGlobals "sizes" = some (some (.ref f_sizes)))
    (l_sizes : K.lookup f_sizes = some ⟨oc_sizes, od_sizes, .func (PySem.W.fnOf "sizes" "sizes" (defArgs s_sizes) (defBody s_sizes) (defScope s_sizes) .none kV_sizes dc_sizes pm_sizes an_sizes cd_sizes ct_sizes), sl_sizes⟩)
    (c_sizes : PySem.W.codeIn K cd_sizes "sizes" = true)
    (k_sizes : PySem.W.keepIn K (.ref f_sizes) = true)
    (a_letters_from : PySem.W.nsIn K mainGlobals "letters_from" = some (some (.ref f_letters_from)))
    (l_letters_from : K.lookup f_letters_from = some ⟨oc_letters_from, od_letters_from, .func (PySem.W.fnOf "letters_from" "letters_from" (defArgs s_letters_from) (defBody s_letters_from) (defScope s_letters_from) .none kV_letters_from dc_letters_from pm_letters_from an_letters_from cd_letters_from ct_letters_from), sl_letters_from⟩)
    (c_letters_from : PySem.W.codeIn K cd_letters_from "letters_from" = true)
    (k_letters_from : PySem.W.keepIn K (.ref f_letters_from) = true)
    (a_first_difference : PySem.W.nsIn K mainGlobals "first_difference" = some (some (.ref f_first_difference)))
    (l_first_difference : K.lookup f_first_difference = some ⟨oc_first_difference, od_first_difference, .func (PySem.W.fnOf "first_difference" "first_difference" (defArgs s_first_difference) (defBody s_first_difference) (defScope s_first_difference) .none kV_first_difference dc_first_difference pm_first_difference an_first_difference cd_first_difference ct_first_difference), sl_first_difference⟩)
    (c_first_difference : PySem.W.codeIn K cd_first_difference "first_difference" = true)
    (k_first_difference : PySem.W.keepIn K (.ref f_first_difference) = true)
    (a__law_numbers : PySem.W.nsIn K mainGlobals "_law_numbers" = some (some (.ref f__law_numbers)))
    (l__law_numbers : K.lookup f__law_numbers = some ⟨oc__law_numbers, od__law_numbers, .func (PySem.W.fnOf "_law_numbers" "_law_numbers" (defArgs s__law_numbers) (defBody s__law_numbers) (defScope s__law_numbers) .none kV__law_numbers dc__law_numbers pm__law_numbers an__law_numbers cd__law_numbers ct__law_numbers), sl__law_numbers⟩)
    (c__law_numbers : PySem.W.codeIn K cd__law_numbers "_law_numbers" = true)
    (k__law_numbers : PySem.W.keepIn K (.ref f__law_numbers) = true)
    (a__law_drawn : PySem.W.nsIn K mainGlobals "_law_drawn" = some (some (.ref f__law_drawn)))
    (l__law_drawn : K.lookup f__law_drawn = some ⟨oc__law_drawn, od__law_drawn, .func (PySem.W.fnOf "_law_drawn" "_law_drawn" (defArgs s__law_drawn) (defBody s__law_drawn) (defScope s__law_drawn) .none kV__law_drawn dc__law_drawn pm__law_drawn an__law_drawn cd__law_drawn ct__law_drawn), sl__law_drawn⟩)
    (c__law_drawn : PySem.W.codeIn K cd__law_drawn "_law_drawn" = true)
    (k__law_drawn : PySem.W.keepIn K (.ref f__law_drawn) = true)
    (a__law_symbols : PySem.W.nsIn K mainGlobals "_law_symbols" = some (some (.ref f__law_symbols)))
    (l__law_symbols : K.lookup f__law_symbols = some ⟨oc__law_symbols, od__law_symbols, .func (PySem.W.fnOf "_law_symbols" "_law_symbols" (defArgs s__law_symbols) (defBody s__law_symbols) (defScope s__law_symbols) .none kV__law_symbols dc__law_symbols pm__law_symbols an__law_symbols cd__law_symbols ct__law_symbols), sl__law_symbols⟩)
    (c__law_symbols : PySem.W.codeIn K cd__law_symbols "_law_symbols" = true)
    (k__law_symbols : PySem.W.keepIn K (.ref f__law_symbols) = true)
    (a__law_roots : PySem.W.nsIn K mainGlobals "_law_roots" = some (some (.ref f__law_roots)))
    (l__law_roots : K.lookup f__law_roots = some ⟨oc__law_roots, od__law_roots, .func (PySem.W.fnOf "_law_roots" "_law_roots" (defArgs s__law_roots) (defBody s__law_roots) (defScope s__law_roots) .none kV__law_roots dc__law_roots pm__law_roots an__law_roots cd__law_roots ct__law_roots), sl__law_roots⟩)
    (c__law_roots : PySem.W.codeIn K cd__law_roots "_law_roots" = true)
    (k__law_roots : PySem.W.keepIn K (.ref f__law_roots) = true)
    (a__law_sizes : PySem.W.nsIn K mainGlobals "_law_sizes" = some (some (.ref f__law_sizes)))
    (l__law_sizes : K.lookup f__law_sizes = some ⟨oc__law_sizes, od__law_sizes, .func (PySem.W.fnOf "_law_sizes" "_law_sizes" (defArgs s__law_sizes) (defBody s__law_sizes) (defScope s__law_sizes) .none kV__law_sizes dc__law_sizes pm__law_sizes an__law_sizes cd__law_sizes ct__law_sizes), sl__law_sizes⟩)
    (c__law_sizes : PySem.W.codeIn K cd__law_sizes "_law_sizes" = true)
    (k__law_sizes : PySem.W.keepIn K (.ref f__law_sizes) = true)
    (a__law_texts : PySem.W.nsIn K mainGlobals "_law_texts" = some (some (.ref f__law_texts)))
    (l__law_texts : K.lookup f__law_texts = some ⟨oc__law_texts, od__law_texts, .func (PySem.W.fnOf "_law_texts" "_law_texts" (defArgs s__law_texts) (defBody s__law_texts) (defScope s__law_texts) .none kV__law_texts dc__law_texts pm__law_texts an__law_texts cd__law_texts ct__law_texts), sl__law_texts⟩)
    (c__law_texts : PySem.W.codeIn K cd__law_texts "_law_texts" = true)
    (k__law_texts : PySem.W.keepIn K (.ref f__law_texts) = true)
    (a__law_due : PySem.W.nsIn K mainGlobals "_law_due" = some (some (.ref f__law_due)))
    (l__law_due : K.lookup f__law_due = some ⟨oc__law_due, od__law_due, .func (PySem.W.fnOf "_law_due" "_law_due" (defArgs s__law_due) (defBody s__law_due) (defScope s__law_due) .none kV__law_due dc__law_due pm__law_due an__law_due cd__law_due ct__law_due), sl__law_due⟩)
    (c__law_due : PySem.W.codeIn K cd__law_due "_law_due" = true)
    (k__law_due : PySem.W.keepIn K (.ref f__law_due) = true)
    (a__law_told : PySem.W.nsIn K mainGlobals "_law_told" = some (some (.ref f__law_told)))
    (l__law_told : K.lookup f__law_told = some ⟨oc__law_told, od__law_told, .func (PySem.W.fnOf "_law_told" "_law_told" (defArgs s__law_told) (defBody s__law_told) (defScope s__law_told) .none kV__law_told dc__law_told pm__law_told an__law_told cd__law_told ct__law_told), sl__law_told⟩)
    (c__law_told : PySem.W.codeIn K cd__law_told "_law_told" = true)
    (k__law_told : PySem.W.keepIn K (.ref f__law_told) = true)
    (a__law_chains : PySem.W.nsIn K mainGlobals "_law_chains" = some (some (.ref f__law_chains)))
    (l__law_chains : K.lookup f__law_chains = some ⟨oc__law_chains, od__law_chains, .func (PySem.W.fnOf "_law_chains" "_law_chains" (defArgs s__law_chains) (defBody s__law_chains) (defScope s__law_chains) .none kV__law_chains dc__law_chains pm__law_chains an__law_chains cd__law_chains ct__law_chains), sl__law_chains⟩)
    (c__law_chains : PySem.W.codeIn K cd__law_chains "_law_chains" = true)
    (k__law_chains : PySem.W.keepIn K (.ref f__law_chains) = true)
    (a_law : PySem.W.nsIn K mainGlobals "law" = some (some (.ref f_law)))
    (l_law : K.lookup f_law = some ⟨oc_law, od_law, .func (PySem.W.fnOf "law" "law" (defArgs s_law) (defBody s_law) (defScope s_law) .none kV_law dc_law pm_law an_law cd_law ct_law), sl_law⟩)
    (c_law : PySem.W.codeIn K cd_law "law" = true)
    (k_law : PySem.W.keepIn K (.ref f_law) = true)
    (z_abs : PySem.W.nsIn K mainGlobals "abs" = some none)
    (z_int : PySem.W.nsIn K mainGlobals "int" = some none)
    (z_isinstance : PySem.W.nsIn K mainGlobals "isinstance" = some none)
    (z_len : PySem.W.nsIn K mainGlobals "len" = some none)
    (z_max : PySem.W.nsIn K mainGlobals "max" = some none)
    (z_min : PySem.W.nsIn K mainGlobals "min" = some none)
    (z_range : PySem.W.nsIn K mainGlobals "range" = some none)
    (z_repr : PySem.W.nsIn K mainGlobals "repr" = some none)
    (z_sum : PySem.W.nsIn K mainGlobals "sum" = some none)
    (g_MOST_COMPARED : PySem.W.nsIn K mainGlobals "MOST_COMPARED" = some (some (.int 4000 t_MOST_COMPARED)))
    (nolist : (K.all fun p => !(p.2.cls == .type "list")) = true)
    : (∀ b ob, K.lookup b = some ob → ob.cls ≠ .type "list") ∧ ∃ fd : FuncData, Fun K "law" "law" s_law fa fd ∧ (∀ (s : Shared) (u : Value), BindsTo s fd ⟨[u], []⟩ [("script", u)]) ∧
      ∀ (base : Heap) (cdv : Value) (s : Shared) (H : Hp), K.In base → base.Ns mainGlobals mg →
        DSs (cxOf (L2.CX P w) P w K mg base n_law "law" (defScope s_law) fa cdv callerA [] s H fun _ _ _ => False) ⟨wE fun _ _ _ => False, mg, none⟩ ⟨[], [], .pl⟩ (mode0 n_law.length 1) [] (defBody s_law) o_law := by
  have e := hfa.symm.trans (PySem.W.mg_of X G a_law)
  cases e
  have F_check_symbol := fun_mk (st := s_check_symbol) l_check_symbol c_check_symbol k_check_symbol
  have F_sizes := fun_mk (st := s_sizes) l_sizes c_sizes k_sizes
  have F_letters_from := fun_mk (st := s_letters_from) l_letters_from c_letters_from k_letters_from
  have F_first_difference := fun_mk (st := s_first_difference) l_first_difference c_first_difference k_first_difference
  have F__law_numbers := fun_mk (st := s__law_numbers) l__law_numbers c__law_numbers k__law_numbers
  have F__law_drawn := fun_mk (st := s__law_drawn) l__law_drawn c__law_drawn k__law_drawn
  have F__law_symbols := fun_mk (st := s__law_symbols) l__law_symbols c__law_symbols k__law_symbols
  have F__law_roots := fun_mk (st := s__law_roots) l__law_roots c__law_roots k__law_roots
  have F__law_sizes := fun_mk (st := s__law_sizes) l__law_sizes c__law_sizes k__law_sizes
  have F__law_texts := fun_mk (st := s__law_texts) l__law_texts c__law_texts k__law_texts
  have F__law_due := fun_mk (st := s__law_due) l__law_due c__law_due k__law_due
  have F__law_told := fun_mk (st := s__law_told) l__law_told c__law_told k__law_told
  have F__law_chains := fun_mk (st := s__law_chains) l__law_chains c__law_chains k__law_chains
  have F_law := fun_mk (st := s_law) l_law c_law k_law
  have F_init := fun_mk (st := s_init) l_ini c_ini k_ini
  have E_HouseError : ErrF K mg "HouseError" C_HouseError fI := ⟨PySem.W.mg_of X G a_HouseError, ⟨⟨_, _, _, _, _, _, _, _, _, _, _, _, _, _, _, cl_HouseError, bm_HouseErrorx⟩, sa_HouseError, ex_HouseError, ty_HouseError, kc_HouseError⟩, a_ini, at_HouseError⟩
  have K_HouseError : ExK K C_HouseError := ⟨(by unfold PySem.W.clsIn; rw [cl_HouseError]; rfl), ga_HouseError, gg_HouseError, ex_HouseError, hd_HouseError, ca_HouseError, spx, tkx, mo_HouseError, at_HouseError⟩
  have E_OutOfRange : ErrF K mg "OutOfRange" C_OutOfRange fI := ⟨PySem.W.mg_of X G a_OutOfRange, ⟨⟨_, _, _, _, _, _, _, _, _, _, _, _, _, _, _, cl_OutOfRange, bm_OutOfRangex⟩, sa_OutOfRange, ex_OutOfRange, ty_OutOfRange, kc_OutOfRange⟩, in_OutOfRange, at_OutOfRange⟩
  have K_OutOfRange : ExK K C_OutOfRange := ⟨(by unfold PySem.W.clsIn; rw [cl_OutOfRange]; rfl), ga_OutOfRange, gg_OutOfRange, ex_OutOfRange, hd_OutOfRange, ca_OutOfRange, spx, tkx, mo_OutOfRange, at_OutOfRange⟩
  have E_TooLong : ErrF K mg "TooLong" C_TooLong fI := ⟨PySem.W.mg_of X G a_TooLong, ⟨⟨_, _, _, _, _, _, _, _, _, _, _, _, _, _, _, cl_TooLong, bm_TooLongx⟩, sa_TooLong, ex_TooLong, ty_TooLong, kc_TooLong⟩, in_TooLong, at_TooLong⟩
  have K_TooLong : ExK K C_TooLong := ⟨(by unfold PySem.W.clsIn; rw [cl_TooLong]; rfl), ga_TooLong, gg_TooLong, ex_TooLong, hd_TooLong, ca_TooLong, spx, tkx, mo_TooLong, at_TooLong⟩
  let T : Txt K mg := {
    fI := fI,
    fdI := _,
    FI := F_init,
    bdI := F_init.binds (ps := n_init) fun _ _ _ _ _ _ us hl => match us, hl with | [_, _], _ => rfl,
    tI := t_ini,
    b_ValueError := PySem.W.mg_none_of X G z_ValueError,
    vV := vV,
    C_HouseError := C_HouseError,
    E_HouseError := E_HouseError,
    K_HouseError := K_HouseError,
    C_OutOfRange := C_OutOfRange,
    E_OutOfRange := E_OutOfRange,
    K_OutOfRange := K_OutOfRange,
    C_TooLong := C_TooLong,
    E_TooLong := E_TooLong,
    K_TooLong := K_TooLong,
    x_HouseError_HouseError := exm_of ex_HouseError hd_HouseError ty_HouseError s_HouseError_HouseError,
    x_OutOfRange_HouseError := exm_of ex_HouseError hd_HouseError ty_HouseError s_OutOfRange_HouseError,
    x_TooLong_HouseError := exm_of ex_HouseError hd_HouseError ty_HouseError s_TooLong_HouseError,
    i_HouseError_OutOfRange := kit_cls n_HouseError_OutOfRange K_OutOfRange.cl ty_OutOfRange s_HouseError_OutOfRange,
    i_OutOfRange_OutOfRange := kit_self,
    i_TooLong_OutOfRange := kit_cls n_TooLong_OutOfRange K_OutOfRange.cl ty_OutOfRange s_TooLong_OutOfRange,
    i_HouseError_TooLong := kit_cls n_HouseError_TooLong K_TooLong.cl ty_TooLong s_HouseError_TooLong,
    i_OutOfRange_TooLong := kit_cls n_OutOfRange_TooLong K_TooLong.cl ty_TooLong s_OutOfRange_TooLong,
    i_TooLong_TooLong := kit_self,
    f_check_symbol := f_check_symbol,
    fd_check_symbol := _,
    F_check_symbol := F_check_symbol,
    bd_check_symbol := F_check_symbol.binds (ps := p_check_symbol) fun _ _ _ _ _ _ us hl => match us, hl with | [_, _], _ => rfl,
    m_check_symbol := PySem.W.mg_of X G a_check_symbol,
    k_check_symbol := k_check_symbol,
    f_sizes := f_sizes,
    fd_sizes := _,
    F_sizes := F_sizes,
    bd_sizes := F_sizes.binds (ps := p_sizes) fun _ _ _ _ _ _ us hl => match us, hl with | [_], _ => rfl,
    m_sizes := PySem.W.mg_of X G a_sizes,
    k_sizes := k_sizes,
    f_letters_from := f_letters_from,
    fd_letters_from := _,
    F_letters_from := F_letters_from,
    bd_letters_from := F_letters_from.binds (ps := p_letters_from) fun _ _ _ _ _ _ us hl => match us, hl with | [_, _, _, _, _], _ => rfl,
    m_letters_from := PySem.W.mg_of X G a_letters_from,
    k_letters_from := k_letters_from,
    f_first_difference := f_first_difference,
    fd_first_difference := _,
    F_first_difference := F_first_difference,
    bd_first_difference := F_first_difference.binds (ps := p_first_difference) fun _ _ _ _ _ _ us hl => match us, hl with | [_, _, _], _ => rfl,
    m_first_difference := PySem.W.mg_of X G a_first_difference,
    k_first_difference := k_first_difference,
    f__law_numbers := f__law_numbers,
    fd__law_numbers := _,
    F__law_numbers := F__law_numbers,
    bd__law_numbers := F__law_numbers.binds (ps := p__law_numbers) fun _ _ _ _ _ _ us hl => match us, hl with | [_, _], _ => rfl,
    m__law_numbers := PySem.W.mg_of X G a__law_numbers,
    k__law_numbers := k__law_numbers,
    f__law_drawn := f__law_drawn,
    fd__law_drawn := _,
    F__law_drawn := F__law_drawn,
    bd__law_drawn := F__law_drawn.binds (ps := p__law_drawn) fun _ _ _ _ _ _ us hl => match us, hl with | [_, _], _ => rfl,
    m__law_drawn := PySem.W.mg_of X G a__law_drawn,
    k__law_drawn := k__law_drawn,
    f__law_symbols := f__law_symbols,
    fd__law_symbols := _,
    F__law_symbols := F__law_symbols,
    bd__law_symbols := F__law_symbols.binds (ps := p__law_symbols) fun _ _ _ _ _ _ us hl => match us, hl with | [_, _, _], _ => rfl,
    m__law_symbols := PySem.W.mg_of X G a__law_symbols,
    k__law_symbols := k__law_symbols,
    f__law_roots := f__law_roots,
    fd__law_roots := _,
    F__law_roots := F__law_roots,
    bd__law_roots := F__law_roots.binds (ps := p__law_roots) fun _ _ _ _ _ _ us hl => match us, hl with | [_, _, _], _ => rfl,
    m__law_roots := PySem.W.mg_of X G a__law_roots,
    k__law_roots := k__law_roots,
    f__law_sizes := f__law_sizes,
    fd__law_sizes := _,
    F__law_sizes := F__law_sizes,
    bd__law_sizes := F__law_sizes.binds (ps := p__law_sizes) fun _ _ _ _ _ _ us hl => match us, hl with | [_], _ => rfl,
    m__law_sizes := PySem.W.mg_of X G a__law_sizes,
    k__law_sizes := k__law_sizes,
    f__law_texts := f__law_texts,
    fd__law_texts := _,
    F__law_texts := F__law_texts,
    bd__law_texts := F__law_texts.binds (ps := p__law_texts) fun _ _ _ _ _ _ us hl => match us, hl with | [_, _], _ => rfl,
    m__law_texts := PySem.W.mg_of X G a__law_texts,
    k__law_texts := k__law_texts,
    f__law_due := f__law_due,
    fd__law_due := _,
    F__law_due := F__law_due,
    bd__law_due := F__law_due.binds (ps := p__law_due) fun _ _ _ _ _ _ us hl => match us, hl with | [_, _], _ => rfl,
    m__law_due := PySem.W.mg_of X G a__law_due,
    k__law_due := k__law_due,
    f__law_told := f__law_told,
    fd__law_told := _,
    F__law_told := F__law_told,
    bd__law_told := F__law_told.binds (ps := p__law_told) fun _ _ _ _ _ _ us hl => match us, hl with | [_, _, _], _ => rfl,
    m__law_told := PySem.W.mg_of X G a__law_told,
    k__law_told := k__law_told,
    f__law_chains := f__law_chains,
    fd__law_chains := _,
    F__law_chains := F__law_chains,
    bd__law_chains := F__law_chains.binds (ps := p__law_chains) fun _ _ _ _ _ _ us hl => match us, hl with | [_], _ => rfl,
    m__law_chains := PySem.W.mg_of X G a__law_chains,
    k__law_chains := k__law_chains,
    b_abs := PySem.W.mg_none_of X G z_abs,
    b_int := PySem.W.mg_none_of X G z_int,
    b_isinstance := PySem.W.mg_none_of X G z_isinstance,
    b_len := PySem.W.mg_none_of X G z_len,
    b_max := PySem.W.mg_none_of X G z_max,
    b_min := PySem.W.mg_none_of X G z_min,
    b_range := PySem.W.mg_none_of X G z_range,
    b_repr := PySem.W.mg_none_of X G z_repr,
    b_sum := PySem.W.mg_none_of X G z_sum,
    t_MOST_COMPARED := t_MOST_COMPARED,
    c_MOST_COMPARED := PySem.W.mg_of X G g_MOST_COMPARED }
  refine ⟨fun b ob e z => ?_, _, F_law, fun s u => .of_eq rfl, body_law T fa⟩
  exact nolist_of nolist e z

end K70
namespace K70
open PySem PySem.Spec L2 DL
abbrev li (ns : List Int) : D := .list (ns.map .int)
theorem ix_li {ns : List Int} {i : Int} {n : Nat} {v : Int} (hi : i = n) (h : ns[n]? = some v) : ixD (li ns) (.int i) = some (.int v) := ix_int hi (by simp [h])
theorem mod_nat (a : Int) {n : Nat} (h : 0 < n) : ∃ k : Nat, a % (n : Int) = k ∧ k < n := by
  have h0 := Int.emod_nonneg a (show (n : Int) ≠ 0 by omega)
  have h1 := Int.emod_lt_of_pos a (show (0 : Int) < (n : Int) by omega)
  obtain ⟨k, hn⟩ := Int.eq_ofNat_of_zero_le h0
  exact ⟨k, hn, by omega⟩
theorem drawn_ok {ns : List Int} {a : Int} (h : 0 < ns.length) : ∃ v ∈ ns, m__law_drawn [li ns, .int a] = .ok (.int v) := by
  have hp : (0 : Int) < (ns.length : Int) := by omega
  obtain ⟨n, hn, hl⟩ := mod_nat a h
  refine ⟨ns[n], List.getElem_mem hl, ?_⟩
  refine run_rt ?_
  simp only [o__law_drawn, ap_var, ap_c, ap_m1, ap_m2, ap_m3, ap_part, ap_nopart, ap_if, ap_isN, ap_notN, ap_list, ap_tup, ap_nil, ap_cons, ap_cb, ap_m1m, ap_chain, ap_isi, ap_mB, ap_asB, ap_and, ap_or, ap_not, ap_yes, ap_call, ap_lc, ap_noX, ap_iseq, ap_iown, ap_seq, th_nx, th_rt, th_exc, ap_skip, ap_set, ap_asg, ap_aug, ap_lm, ap_put, ap_oif, ap_ret, ap_drop, ap_raise, ap_gN, ap_gT, ap_gsN, ap_gsC, ap_app, Res.bind_ok, Res.bind_exc, Res.of_some, exOut_ok, exOut_exc, wipeE, Option.bind_some, List.length_cons, List.length_nil, List.getElem?_cons_zero, List.getElem?_cons_succ, List.set_cons_zero, List.set_cons_succ, List.map_cons, List.map_nil, addD, subD, cmpI, negD, modD, ap_lenL, ap_lenT, intD, int1, int2, walkD, if_true, if_false, decide_eq_true_eq, Bool.false_eq_true, reduceIte, Nat.reduceAdd, Nat.reduceSub, List.replicate_succ, List.replicate_zero, List.cons_append, List.nil_append, List.length_map, hp, hn]
  rw [ix_nat (n := n) (d := .int ns[n]) (by simp [hl])]
  simp only [ap_var, ap_c, ap_m1, ap_m2, ap_m3, ap_part, ap_nopart, ap_if, ap_isN, ap_notN, ap_list, ap_tup, ap_nil, ap_cons, ap_cb, ap_m1m, ap_chain, ap_isi, ap_mB, ap_asB, ap_and, ap_or, ap_not, ap_yes, ap_call, ap_lc, ap_noX, ap_iseq, ap_iown, ap_seq, th_nx, th_rt, th_exc, ap_skip, ap_set, ap_asg, ap_aug, ap_lm, ap_put, ap_oif, ap_ret, ap_drop, ap_raise, ap_gN, ap_gT, ap_gsN, ap_gsC, ap_app, Res.bind_ok, Res.bind_exc, Res.of_some, exOut_ok, exOut_exc, wipeE, Option.bind_some, List.length_cons, List.length_nil, List.getElem?_cons_zero, List.getElem?_cons_succ, List.set_cons_zero, List.set_cons_succ, List.map_cons, List.map_nil, addD, subD, cmpI, negD, modD, ap_lenL, ap_lenT, intD, int1, int2, walkD, if_true, if_false, decide_eq_true_eq, Bool.false_eq_true, reduceIte, Nat.reduceAdd, Nat.reduceSub, List.replicate_succ, List.replicate_zero, List.cons_append, List.nil_append]
abbrev Ok16 (v : Int) : Prop := 0 ≤ v ∧ v < 65536
theorem numbers_ok (ns : List Int) (hl : ns.length ≤ 63) : ∃ xs : List Int, m__law_numbers [li ns, .int 400] = .ok (li xs) ∧ xs.length = 400 ∧ ∀ v ∈ xs, Ok16 v := by
  have hcut : cut (ns.map PyData.int) none (some 63) = ns.map .int := cut_all _ 63 (by simpa using hl)
  let ab : D → D := fun d => match d with | .int i => .int (if i < 0 then -i else i) | d => d
  have habs : (ns.map PyData.int).map ab = (ns.map fun i => if i < 0 then -i else i).map .int := by simp [ab]
  suffices H : ∃ x, o__law_numbers [some (li ns), some (.int 400), none, none, none, none, none, none] = x ∧ ∃ xs : List Int, x = .rt (li xs) ∧ xs.length = 400 ∧ ∀ v ∈ xs, Ok16 v by
    obtain ⟨x, h0, xs, h1, h2⟩ := H
    exact ⟨xs, run_rt (h0.trans h1), h2⟩
  unfold o__law_numbers
  -- rest
  let as := ns.map fun i => if i < 0 then -i else i
  have ha : ∀ v ∈ as, 0 ≤ v := by
    intro v hv
    obtain ⟨i, _, rfl⟩ := List.mem_map.mp hv
    split <;> omega
  have hal : as.length = ns.length := by simp [as]
  obtain ⟨r0, hr0, hrl, hrz, e2⟩ : ∃ r0 : List Int, (∀ v ∈ r0, 0 ≤ v) ∧ 0 < r0.length ∧ r0.length ≤ 64 ∧ oIf (mB (m2 gtI (mCB lenD (aCons (mVar 0) aNil)) (mC (.int 0)))) (oSet 2 (m3 slLD (mVar 2) mNoPart (mPart (m1 negD (mC (.int 1)))))) oSkip [some (li ns), some (.int 400), some (li (as ++ [0])), none, none, none, none, none]
      = .nx [some (li ns), some (.int 400), some (li r0), none, none, none, none, none] := by
    by_cases hz : 0 < ns.length
    · refine ⟨as, ha, by omega, by omega, ?_⟩
      have hz' : (0 : Int) < (ns.length : Int) := by omega
      have hc : cut ((as ++ [0]).map PyData.int) none (some (-1)) = as.map .int := by
        simp [cut, HT.sIx]
        rw [show (-1 + ((as.length : Int) + 1)).toNat = (as.map PyData.int).length by simp; omega]
        exact List.take_left
      simp only [ap_var, ap_c, ap_m1, ap_m2, ap_m3, ap_part, ap_nopart, ap_if, ap_isN, ap_notN, ap_list, ap_tup, ap_nil, ap_cons, ap_cb, ap_m1m, ap_chain, ap_isi, ap_mB, ap_asB, ap_and, ap_or, ap_not, ap_yes, ap_call, ap_lc, ap_noX, ap_iseq, ap_iown, ap_seq, th_nx, th_rt, th_exc, ap_skip, ap_set, ap_asg, ap_aug, ap_lm, ap_put, ap_oif, ap_ret, ap_drop, ap_raise, ap_gN, ap_gT, ap_gsN, ap_gsC, ap_app, Res.bind_ok, Res.bind_exc, Res.of_some, exOut_ok, exOut_exc, wipeE, Option.bind_some, List.length_cons, List.length_nil, List.getElem?_cons_zero, List.getElem?_cons_succ, List.set_cons_zero, List.set_cons_succ, List.map_cons, List.map_nil, addD, subD, cmpI, negD, modD, ap_lenL, ap_lenT, intD, int1, int2, walkD, if_true, if_false, decide_eq_true_eq, Bool.false_eq_true, reduceIte, Nat.reduceAdd, Nat.reduceSub, List.replicate_succ, List.replicate_zero, List.cons_append, List.nil_append, List.length_map, hz', decide_true, slLD, hc]
    · refine ⟨as ++ [0], ?_, by simp, by simp; omega, ?_⟩
      · intro v hv
        rcases List.mem_append.mp hv with h | h
        · exact ha v h
        · simp at h; omega
      · have hz' : ¬ (0 : Int) < (ns.length : Int) := by omega
        simp only [ap_var, ap_c, ap_m1, ap_m2, ap_m3, ap_part, ap_nopart, ap_if, ap_isN, ap_notN, ap_list, ap_tup, ap_nil, ap_cons, ap_cb, ap_m1m, ap_chain, ap_isi, ap_mB, ap_asB, ap_and, ap_or, ap_not, ap_yes, ap_call, ap_lc, ap_noX, ap_iseq, ap_iown, ap_seq, th_nx, th_rt, th_exc, ap_skip, ap_set, ap_asg, ap_aug, ap_lm, ap_put, ap_oif, ap_ret, ap_drop, ap_raise, ap_gN, ap_gT, ap_gsN, ap_gsC, ap_app, Res.bind_ok, Res.bind_exc, Res.of_some, exOut_ok, exOut_exc, wipeE, Option.bind_some, List.length_cons, List.length_nil, List.getElem?_cons_zero, List.getElem?_cons_succ, List.set_cons_zero, List.set_cons_succ, List.map_cons, List.map_nil, addD, subD, cmpI, negD, modD, ap_lenL, ap_lenT, intD, int1, int2, walkD, if_true, if_false, decide_eq_true_eq, Bool.false_eq_true, reduceIte, Nat.reduceAdd, Nat.reduceSub, List.replicate_succ, List.replicate_zero, List.cons_append, List.nil_append, List.length_map, hz', decide_false]
  refine seq_ex (e := [some (li ns), some (.int 400), some (li (as ++ [0])), none, none, none, none, none]) ?_ (seq_ex e2 ?_)
  · simp only [ap_var, ap_c, ap_m1, ap_m2, ap_m3, ap_part, ap_nopart, ap_if, ap_isN, ap_notN, ap_list, ap_tup, ap_nil, ap_cons, ap_cb, ap_m1m, ap_chain, ap_isi, ap_mB, ap_asB, ap_and, ap_or, ap_not, ap_yes, ap_call, ap_lc, ap_noX, ap_iseq, ap_iown, ap_seq, th_nx, th_rt, th_exc, ap_skip, ap_set, ap_asg, ap_aug, ap_lm, ap_put, ap_oif, ap_ret, ap_drop, ap_raise, ap_gN, ap_gT, ap_gsN, ap_gsC, ap_app, Res.bind_ok, Res.bind_exc, Res.of_some, exOut_ok, exOut_exc, wipeE, Option.bind_some, List.length_cons, List.length_nil, List.getElem?_cons_zero, List.getElem?_cons_succ, List.set_cons_zero, List.set_cons_succ, List.map_cons, List.map_nil, addD, subD, cmpI, negD, modD, ap_lenL, ap_lenT, intD, int1, int2, walkD, if_true, if_false, decide_eq_true_eq, Bool.false_eq_true, reduceIte, Nat.reduceAdd, Nat.reduceSub, List.replicate_succ, List.replicate_zero, List.cons_append, List.nil_append, slD, hcut]
    rw [lc_all ab (by
      intro d hd
      obtain ⟨i, _, rfl⟩ := List.mem_map.mp hd
      simp only [ap_var, ap_c, ap_m1, ap_m2, ap_m3, ap_part, ap_nopart, ap_if, ap_isN, ap_notN, ap_list, ap_tup, ap_nil, ap_cons, ap_cb, ap_m1m, ap_chain, ap_isi, ap_mB, ap_asB, ap_and, ap_or, ap_not, ap_yes, ap_call, ap_lc, ap_noX, ap_iseq, ap_iown, ap_seq, th_nx, th_rt, th_exc, ap_skip, ap_set, ap_asg, ap_aug, ap_lm, ap_put, ap_oif, ap_ret, ap_drop, ap_raise, ap_gN, ap_gT, ap_gsN, ap_gsC, ap_app, Res.bind_ok, Res.bind_exc, Res.of_some, exOut_ok, exOut_exc, wipeE, Option.bind_some, List.length_cons, List.length_nil, List.getElem?_cons_zero, List.getElem?_cons_succ, List.set_cons_zero, List.set_cons_succ, List.map_cons, List.map_nil, addD, subD, cmpI, negD, modD, ap_lenL, ap_lenT, intD, int1, int2, walkD, if_true, if_false, decide_eq_true_eq, Bool.false_eq_true, reduceIte, Nat.reduceAdd, Nat.reduceSub, List.replicate_succ, List.replicate_zero, List.cons_append, List.nil_append]
      rfl)]
    simp only [ap_var, ap_c, ap_m1, ap_m2, ap_m3, ap_part, ap_nopart, ap_if, ap_isN, ap_notN, ap_list, ap_tup, ap_nil, ap_cons, ap_cb, ap_m1m, ap_chain, ap_isi, ap_mB, ap_asB, ap_and, ap_or, ap_not, ap_yes, ap_call, ap_lc, ap_noX, ap_iseq, ap_iown, ap_seq, th_nx, th_rt, th_exc, ap_skip, ap_set, ap_asg, ap_aug, ap_lm, ap_put, ap_oif, ap_ret, ap_drop, ap_raise, ap_gN, ap_gT, ap_gsN, ap_gsC, ap_app, Res.bind_ok, Res.bind_exc, Res.of_some, exOut_ok, exOut_exc, wipeE, Option.bind_some, List.length_cons, List.length_nil, List.getElem?_cons_zero, List.getElem?_cons_succ, List.set_cons_zero, List.set_cons_succ, List.map_cons, List.map_nil, addD, subD, cmpI, negD, modD, ap_lenL, ap_lenT, intD, int1, int2, walkD, if_true, if_false, decide_eq_true_eq, Bool.false_eq_true, reduceIte, Nat.reduceAdd, Nat.reduceSub, List.replicate_succ, List.replicate_zero, List.cons_append, List.nil_append, habs, List.length_map, sz_ge (show 1 ≤ 16777216 by omega), sz_ge (show ns.length ≤ 16777216 by omega), catD, sz_ge (show ns.length + 1 ≤ 16777216 by omega)]
    simp [as, li]
  -- mixed
  let mx : D → D := fun d => match d with | .int i => .int ((i * 48271 + 11) % 2147483647) | d => d
  let m0 := r0.map fun i => (i * 48271 + 11) % 2147483647
  have hmx : (r0.map PyData.int).map mx = m0.map .int := by simp [mx, m0]
  have hm0 : ∀ v ∈ m0, 0 ≤ v := by
    intro v hv
    obtain ⟨i, _, rfl⟩ := List.mem_map.mp hv
    omega
  have hml : m0.length = r0.length := by simp [m0]
  have cm : ∀ (i j : Int), -18446744073709551616 < j → j < 18446744073709551616 → CMul i j := fun i j h1 h2 => .inr ⟨h1, h2⟩
  have cm' : ∀ (i j : Int), -18446744073709551616 < i → i < 18446744073709551616 → CMul i j := fun i j h1 h2 => .inl ⟨h1, h2⟩
  have k1 : ∀ i, CMul i 48271 := fun i => cm _ _ (by omega) (by omega)
  have k2 : ∀ i, CMul i 16807 := fun i => cm _ _ (by omega) (by omega)
  have k3 : ∀ i, CMul 7919 i := fun i => cm' _ _ (by omega) (by omega)
  have k4 : CPow 10 18 := by unfold CPow; decide
  have k5 : ∀ i, CDiv i 65536 := fun i => by unfold CDiv; omega
  have k6 : ∀ i, CDiv i 5 := fun i => by unfold CDiv; omega
  have k7 : (0 : Int) < 2147483647 := by decide
  have k8 : (0 : Int) < 65536 := by decide
  refine seq_ex (e := [some (li ns), some (.int 400), some (li r0), some (li m0), none, none, none, none]) ?_ ?_
  · simp only [ap_var, ap_c, ap_m1, ap_m2, ap_m3, ap_part, ap_nopart, ap_if, ap_isN, ap_notN, ap_list, ap_tup, ap_nil, ap_cons, ap_cb, ap_m1m, ap_chain, ap_isi, ap_mB, ap_asB, ap_and, ap_or, ap_not, ap_yes, ap_call, ap_lc, ap_noX, ap_iseq, ap_iown, ap_seq, th_nx, th_rt, th_exc, ap_skip, ap_set, ap_asg, ap_aug, ap_lm, ap_put, ap_oif, ap_ret, ap_drop, ap_raise, ap_gN, ap_gT, ap_gsN, ap_gsC, ap_app, Res.bind_ok, Res.bind_exc, Res.of_some, exOut_ok, exOut_exc, wipeE, Option.bind_some, List.length_cons, List.length_nil, List.getElem?_cons_zero, List.getElem?_cons_succ, List.set_cons_zero, List.set_cons_succ, List.map_cons, List.map_nil, addD, subD, cmpI, negD, modD, ap_lenL, ap_lenT, intD, int1, int2, walkD, if_true, if_false, decide_eq_true_eq, Bool.false_eq_true, reduceIte, Nat.reduceAdd, Nat.reduceSub, List.replicate_succ, List.replicate_zero, List.cons_append, List.nil_append]
    rw [lc_all mx (by
      intro d hd
      obtain ⟨i, _, rfl⟩ := List.mem_map.mp hd
      simp only [ap_var, ap_c, ap_m1, ap_m2, ap_m3, ap_part, ap_nopart, ap_if, ap_isN, ap_notN, ap_list, ap_tup, ap_nil, ap_cons, ap_cb, ap_m1m, ap_chain, ap_isi, ap_mB, ap_asB, ap_and, ap_or, ap_not, ap_yes, ap_call, ap_lc, ap_noX, ap_iseq, ap_iown, ap_seq, th_nx, th_rt, th_exc, ap_skip, ap_set, ap_asg, ap_aug, ap_lm, ap_put, ap_oif, ap_ret, ap_drop, ap_raise, ap_gN, ap_gT, ap_gsN, ap_gsC, ap_app, Res.bind_ok, Res.bind_exc, Res.of_some, exOut_ok, exOut_exc, wipeE, Option.bind_some, List.length_cons, List.length_nil, List.getElem?_cons_zero, List.getElem?_cons_succ, List.set_cons_zero, List.set_cons_succ, List.map_cons, List.map_nil, addD, subD, cmpI, negD, modD, ap_lenL, ap_lenT, intD, int1, int2, walkD, if_true, if_false, decide_eq_true_eq, Bool.false_eq_true, reduceIte, Nat.reduceAdd, Nat.reduceSub, List.replicate_succ, List.replicate_zero, List.cons_append, List.nil_append, mulG, k1, k7]
      rfl)]
    simp only [ap_var, ap_c, ap_m1, ap_m2, ap_m3, ap_part, ap_nopart, ap_if, ap_isN, ap_notN, ap_list, ap_tup, ap_nil, ap_cons, ap_cb, ap_m1m, ap_chain, ap_isi, ap_mB, ap_asB, ap_and, ap_or, ap_not, ap_yes, ap_call, ap_lc, ap_noX, ap_iseq, ap_iown, ap_seq, th_nx, th_rt, th_exc, ap_skip, ap_set, ap_asg, ap_aug, ap_lm, ap_put, ap_oif, ap_ret, ap_drop, ap_raise, ap_gN, ap_gT, ap_gsN, ap_gsC, ap_app, Res.bind_ok, Res.bind_exc, Res.of_some, exOut_ok, exOut_exc, wipeE, Option.bind_some, List.length_cons, List.length_nil, List.getElem?_cons_zero, List.getElem?_cons_succ, List.set_cons_zero, List.set_cons_succ, List.map_cons, List.map_nil, addD, subD, cmpI, negD, modD, ap_lenL, ap_lenT, intD, int1, int2, walkD, if_true, if_false, decide_eq_true_eq, Bool.false_eq_true, reduceIte, Nat.reduceAdd, Nat.reduceSub, List.replicate_succ, List.replicate_zero, List.cons_append, List.nil_append, hmx, List.length_map, hml, sz_ge (show r0.length ≤ 16777216 by omega)]
  refine seq_ex (e := [some (li ns), some (.int 400), some (li r0), some (li m0), some (li []), none, none, none]) ?_ ?_
  · simp only [ap_var, ap_c, ap_m1, ap_m2, ap_m3, ap_part, ap_nopart, ap_if, ap_isN, ap_notN, ap_list, ap_tup, ap_nil, ap_cons, ap_cb, ap_m1m, ap_chain, ap_isi, ap_mB, ap_asB, ap_and, ap_or, ap_not, ap_yes, ap_call, ap_lc, ap_noX, ap_iseq, ap_iown, ap_seq, th_nx, th_rt, th_exc, ap_skip, ap_set, ap_asg, ap_aug, ap_lm, ap_put, ap_oif, ap_ret, ap_drop, ap_raise, ap_gN, ap_gT, ap_gsN, ap_gsC, ap_app, Res.bind_ok, Res.bind_exc, Res.of_some, exOut_ok, exOut_exc, wipeE, Option.bind_some, List.length_cons, List.length_nil, List.getElem?_cons_zero, List.getElem?_cons_succ, List.set_cons_zero, List.set_cons_succ, List.map_cons, List.map_nil, addD, subD, cmpI, negD, modD, ap_lenL, ap_lenT, intD, int1, int2, walkD, if_true, if_false, decide_eq_true_eq, Bool.false_eq_true, reduceIte, Nat.reduceAdd, Nat.reduceSub, List.replicate_succ, List.replicate_zero, List.cons_append, List.nil_append, sz_ge (show 0 ≤ 16777216 by omega)]
    rfl
  refine seq_for (fun n e => ∃ (r mz nu : List Int) (j1 j2 j3 : Option D), e = [some (li ns), some (.int 400), some (li r), some (li mz), some (li nu), j1, j2, j3] ∧ r.length = r0.length ∧ mz.length = r0.length ∧ (∀ v ∈ r, 0 ≤ v) ∧ (∀ v ∈ mz, 0 ≤ v) ∧ (∀ v ∈ nu, Ok16 v) ∧ nu.length = n) (rng 0 400) ?_ ⟨r0, m0, [], none, none, none, rfl, rfl, hml, hr0, hm0, (fun _ h => nomatch h), rfl⟩ ?_ ?_
  · refine irange_ok (l := [.int (400 : Nat)]) ?_ (range1 (by omega))
    simp only [ap_var, ap_c, ap_m1, ap_m2, ap_m3, ap_part, ap_nopart, ap_if, ap_isN, ap_notN, ap_list, ap_tup, ap_nil, ap_cons, ap_cb, ap_m1m, ap_chain, ap_isi, ap_mB, ap_asB, ap_and, ap_or, ap_not, ap_yes, ap_call, ap_lc, ap_noX, ap_iseq, ap_iown, ap_seq, th_nx, th_rt, th_exc, ap_skip, ap_set, ap_asg, ap_aug, ap_lm, ap_put, ap_oif, ap_ret, ap_drop, ap_raise, ap_gN, ap_gT, ap_gsN, ap_gsC, ap_app, Res.bind_ok, Res.bind_exc, Res.of_some, exOut_ok, exOut_exc, wipeE, Option.bind_some, List.length_cons, List.length_nil, List.getElem?_cons_zero, List.getElem?_cons_succ, List.set_cons_zero, List.set_cons_succ, List.map_cons, List.map_nil, addD, subD, cmpI, negD, modD, ap_lenL, ap_lenT, intD, int1, int2, walkD, if_true, if_false, decide_eq_true_eq, Bool.false_eq_true, reduceIte, Nat.reduceAdd, Nat.reduceSub, List.replicate_succ, List.replicate_zero, List.cons_append, List.nil_append]
    rfl
  · rintro n d e hd ⟨r, mz, nu, j1, j2, j3, rfl, q1, q2, q3, q4, q5, q6⟩
    rw [rng_get] at hd
    split at hd <;> cases hd
    rename_i hn
    obtain ⟨a, ea, hla⟩ := mod_nat (0 + (n : Int)) hrl
    have ga : r[a]? = some r[a] := List.getElem?_eq_getElem (by omega)
    have gm : mz[a]? = some mz[a] := List.getElem?_eq_getElem (by omega)
    have ra := q3 r[a] (List.getElem_mem (by omega))
    have i1 : ixD (li r) (.int (a : Int)) = some (.int r[a]) := ix_li rfl ga
    have i2 : ixD (li mz) (.int (a : Int)) = some (.int mz[a]) := ix_li rfl gm
    have x1 : ixN r0.length (a : Int) = some a := by simp [ixN, hla]
    have hp : (0 : Int) < (r0.length : Int) := by omega
    by_cases hb : (1000000000000000000 : Int) ≤ r[a]
    · refine ⟨_, [some (li ns), some (.int 400), some (li (r.set a (r[a] / 65536))), some (li mz), some (li (nu ++ [r[a] % 65536])), some (.int (0 + (n : Int))), some (.int a), j3], rfl, ?_, r.set a (r[a] / 65536), mz, nu ++ [r[a] % 65536], _, _, _, rfl, by simpa using q1, q2, ?_, q4, ?_, by simp [q6]⟩
      · simp only [ap_var, ap_c, ap_m1, ap_m2, ap_m3, ap_part, ap_nopart, ap_if, ap_isN, ap_notN, ap_list, ap_tup, ap_nil, ap_cons, ap_cb, ap_m1m, ap_chain, ap_isi, ap_mB, ap_asB, ap_and, ap_or, ap_not, ap_yes, ap_call, ap_lc, ap_noX, ap_iseq, ap_iown, ap_seq, th_nx, th_rt, th_exc, ap_skip, ap_set, ap_asg, ap_aug, ap_lm, ap_put, ap_oif, ap_ret, ap_drop, ap_raise, ap_gN, ap_gT, ap_gsN, ap_gsC, ap_app, Res.bind_ok, Res.bind_exc, Res.of_some, exOut_ok, exOut_exc, wipeE, Option.bind_some, List.length_cons, List.length_nil, List.getElem?_cons_zero, List.getElem?_cons_succ, List.set_cons_zero, List.set_cons_succ, List.map_cons, List.map_nil, addD, subD, cmpI, negD, modD, ap_lenL, ap_lenT, intD, int1, int2, walkD, if_true, if_false, decide_eq_true_eq, Bool.false_eq_true, reduceIte, Nat.reduceAdd, Nat.reduceSub, List.replicate_succ, List.replicate_zero, List.cons_append, List.nil_append, List.length_map, q1, hp, ea, i1, powD, k4, show ((10 : Int) ^ (18 : Int).toNat) = 1000000000000000000 by decide, hb, decide_true, k8, fdivD, k5, x1, sz_gt (show nu.length < 16777216 by omega)]
        simp [li]
      · intro v hv
        rcases List.mem_or_eq_of_mem_set hv with h | rfl
        · exact q3 v h
        · omega
      · intro v hv
        rcases List.mem_append.mp hv with h | h
        · exact q5 v h
        · simp at h; subst h; unfold Ok16; omega
    · let w := (mz[a] * 16807 + 12345 + 7919 * (0 + (n : Int))) % 2147483647
      have w0 : 0 ≤ w := Int.emod_nonneg _ (by decide)
      have gw : (mz.set a w)[a]? = some w := by rw [List.getElem?_set_self (by omega)]
      have i3 : ixD (li (mz.set a w)) (.int (a : Int)) = some (.int w) := ix_li rfl gw
      refine ⟨_, [some (li ns), some (.int 400), some (li r), some (li (mz.set a w)), some (li (nu ++ [(r[a] + w / 5) % 65536])), some (.int (0 + (n : Int))), some (.int a), j3], rfl, ?_, r, mz.set a w, nu ++ [(r[a] + w / 5) % 65536], _, _, _, rfl, q1, by simpa using q2, q3, ?_, ?_, by simp [q6]⟩
      · have e3 : (List.map PyData.int mz).set a (.int ((mz[a] * 16807 + 12345 + 7919 * (0 + (n : Int))) % 2147483647)) = (mz.set a w).map .int := by simp [w]
        have i3' : ixD (.list ((mz.set a w).map .int)) (.int (a : Int)) = some (.int w) := i3
        simp only [ap_var, ap_c, ap_m1, ap_m2, ap_m3, ap_part, ap_nopart, ap_if, ap_isN, ap_notN, ap_list, ap_tup, ap_nil, ap_cons, ap_cb, ap_m1m, ap_chain, ap_isi, ap_mB, ap_asB, ap_and, ap_or, ap_not, ap_yes, ap_call, ap_lc, ap_noX, ap_iseq, ap_iown, ap_seq, th_nx, th_rt, th_exc, ap_skip, ap_set, ap_asg, ap_aug, ap_lm, ap_put, ap_oif, ap_ret, ap_drop, ap_raise, ap_gN, ap_gT, ap_gsN, ap_gsC, ap_app, Res.bind_ok, Res.bind_exc, Res.of_some, exOut_ok, exOut_exc, wipeE, Option.bind_some, List.length_cons, List.length_nil, List.getElem?_cons_zero, List.getElem?_cons_succ, List.set_cons_zero, List.set_cons_succ, List.map_cons, List.map_nil, addD, subD, cmpI, negD, modD, ap_lenL, ap_lenT, intD, int1, int2, walkD, if_true, if_false, decide_eq_true_eq, Bool.false_eq_true, reduceIte, Nat.reduceAdd, Nat.reduceSub, List.replicate_succ, List.replicate_zero, List.cons_append, List.nil_append, List.length_map, q1, q2, hp, ea, i1, i2, powD, k4, show ((10 : Int) ^ (18 : Int).toNat) = 1000000000000000000 by decide, hb, decide_false, k8, k7, fdivD, k6, x1, mulG, k2, k3, sz_gt (show nu.length < 16777216 by omega), e3, i3']
        simp [li]
      · intro v hv
        rcases List.mem_or_eq_of_mem_set hv with h | rfl
        · exact q4 v h
        · exact w0
      · intro v hv
        rcases List.mem_append.mp hv with h | h
        · exact q5 v h
        · simp at h; subst h; unfold Ok16; omega
  · rintro e ⟨r, mz, nu, j1, j2, j3, rfl, q1, q2, q3, q4, q5, q6⟩
    refine ⟨_, ?_, nu, rfl, by simpa [rng] using q6, q5⟩
    simp only [ap_var, ap_c, ap_m1, ap_m2, ap_m3, ap_part, ap_nopart, ap_if, ap_isN, ap_notN, ap_list, ap_tup, ap_nil, ap_cons, ap_cb, ap_m1m, ap_chain, ap_isi, ap_mB, ap_asB, ap_and, ap_or, ap_not, ap_yes, ap_call, ap_lc, ap_noX, ap_iseq, ap_iown, ap_seq, th_nx, th_rt, th_exc, ap_skip, ap_set, ap_asg, ap_aug, ap_lm, ap_put, ap_oif, ap_ret, ap_drop, ap_raise, ap_gN, ap_gT, ap_gsN, ap_gsC, ap_app, Res.bind_ok, Res.bind_exc, Res.of_some, exOut_ok, exOut_exc, wipeE, Option.bind_some, List.length_cons, List.length_nil, List.getElem?_cons_zero, List.getElem?_cons_succ, List.set_cons_zero, List.set_cons_succ, List.map_cons, List.map_nil, addD, subD, cmpI, negD, modD, ap_lenL, ap_lenT, intD, int1, int2, walkD, if_true, if_false, decide_eq_true_eq, Bool.false_eq_true, reduceIte, Nat.reduceAdd, Nat.reduceSub, List.replicate_succ, List.replicate_zero, List.cons_append, List.nil_append]
end K70

namespace K70
open PySem PySem.Spec L2 DL
/-! ### symbols and their texts -/
inductive Sy where
  | L (c : Nat) | P (i j : Nat)
  deriving DecidableEq
def Sy.d : Sy → D
  | .L c => .tuple [.str "letter", .str (txS [c])]
  | .P i j => .tuple [.str "pair", .int i, .int j]
def txAdd (T : List (List Nat)) : Sy → List Nat
  | .L c => [c]
  | .P i j => T.getD i [] ++ T.getD j []
def txs (s : List Sy) : List (List Nat) := s.foldl (fun T x => T ++ [txAdd T x]) []
theorem txs_snoc (s : List Sy) (x : Sy) : txs (s ++ [x]) = txs s ++ [txAdd (txs s) x] := by simp [txs]
theorem snoc_ind {α : Type} {p : List α → Prop} (h0 : p []) (hs : ∀ s x, p s → p (s ++ [x])) (s : List α) : p s := by
  have : ∀ t : List α, p t.reverse := by
    intro t
    induction t with
    | nil => exact h0
    | cons x t ih => rw [List.reverse_cons]; exact hs _ _ ih
  have := this s.reverse
  rwa [List.reverse_reverse] at this
theorem txs_length (s : List Sy) : (txs s).length = s.length := by
  refine snoc_ind (p := fun s => (txs s).length = s.length) rfl (fun s x ih => ?_) s
  rw [txs_snoc]; simp [ih]
/-- pairs point back -/
structure WF (s : List Sy) : Prop where
  pair : ∀ (k i j : Nat), s[k]? = some (Sy.P i j) → i < k ∧ j < k
  let' : ∀ c, Sy.L c ∈ s → c < 128
theorem WF.nil : WF [] := ⟨fun k i j h => by simp at h, fun c h => nomatch h⟩
theorem WF.snoc {s : List Sy} {x : Sy} (h : WF s) (hx : match x with | .L c => c < 128 | .P i j => i < s.length ∧ j < s.length) : WF (s ++ [x]) := by
  constructor
  · intro k i j e
    by_cases hk : k < s.length
    · rw [List.getElem?_append_left hk] at e; exact h.pair k i j e
    · rw [List.getElem?_append_right (by omega)] at e
      have : k - s.length = 0 := by
        rcases Nat.eq_zero_or_pos (k - s.length) with z | z
        · exact z
        · rw [List.getElem?_eq_none (by simp; omega)] at e; cases e
      rw [this] at e
      simp at e
      subst e
      simp at hx
      omega
  · intro c e
    rcases List.mem_append.mp e with e | e
    · exact h.let' c e
    · simp at e; subst e; exact hx
theorem WF.take {s : List Sy} (h : WF s) (n : Nat) : WF (s.take n) := by
  constructor
  · intro k i j e
    rw [List.getElem?_take] at e
    split at e
    · exact h.pair k i j e
    · cases e
  · intro c e
    exact h.let' c (List.mem_of_mem_take e)
theorem txs_pre (s : List Sy) : ∀ (t : List Sy) (k : Nat), k < s.length → (txs (s ++ t))[k]? = (txs s)[k]? := by
  intro t
  refine snoc_ind (p := fun t => ∀ (k : Nat), k < s.length → (txs (s ++ t))[k]? = (txs s)[k]?) ?_ ?_ t
  · intro k _; simp
  · intro t x ih k hk
    rw [← List.append_assoc, txs_snoc, List.getElem?_append_left (by rw [txs_length]; simp; omega)]
    exact ih k hk
theorem txs_take {s : List Sy} {n k : Nat} (hk : k < n) (hn : n ≤ s.length) : (txs (s.take n))[k]? = (txs s)[k]? := by
  have := txs_pre (s.take n) (s.drop n) k (by rw [List.length_take]; omega)
  rw [List.take_append_drop] at this
  exact this.symm
/-- a text of a symbol -/
def tx (s : List Sy) (k : Nat) : List Nat := (txs s).getD k []
theorem tx_get {s : List Sy} {k : Nat} (h : k < s.length) : (txs s)[k]? = some (tx s k) := by
  unfold tx
  rw [List.getD_eq_getElem?_getD, List.getElem?_eq_getElem (by rw [txs_length]; exact h)]
  rfl
theorem tx_take {s : List Sy} {n k : Nat} (hk : k < n) (hn : n ≤ s.length) : tx (s.take n) k = tx s k := by
  unfold tx
  rw [List.getD_eq_getElem?_getD, List.getD_eq_getElem?_getD, txs_take hk hn]
theorem take_snoc {α : Type} {s : List α} {k : Nat} {x : α} (h : s[k]? = some x) : s.take (k + 1) = s.take k ++ [x] := by
  rw [List.take_succ, h]; rfl
theorem lt_of_get {α : Type} {s : List α} {k : Nat} {x : α} (h : s[k]? = some x) : k < s.length := (List.getElem?_eq_some_iff.mp h).1
theorem tx_at {s : List Sy} {k : Nat} {x : Sy} (h : s[k]? = some x) : tx s k = txAdd (txs (s.take k)) x := by
  have hk := lt_of_get h
  rw [← tx_take (Nat.lt_succ_self k) hk, take_snoc h]
  have hl : (txs (s.take k)).length = k := by rw [txs_length, List.length_take]; omega
  unfold tx
  rw [txs_snoc, List.getD_eq_getElem?_getD, List.getElem?_append_right (by omega), hl]
  simp
theorem tx_L {s : List Sy} {k c : Nat} (h : s[k]? = some (.L c)) : tx s k = [c] := tx_at h
theorem tx_P {s : List Sy} (w : WF s) {k i j : Nat} (h : s[k]? = some (.P i j)) : tx s k = tx s i ++ tx s j := by
  obtain ⟨hi, hj⟩ := w.pair k i j h
  have hk := lt_of_get h
  rw [tx_at h]
  show tx (s.take k) i ++ tx (s.take k) j = _
  rw [tx_take hi (by omega), tx_take hj (by omega)]
theorem tx_pos {s : List Sy} (w : WF s) : ∀ (n k : Nat), k ≤ n → k < s.length → 0 < (tx s k).length := by
  intro n
  induction n with
  | zero =>
    intro k hn hk
    cases h : s[k] with
    | L c => rw [tx_L (by rw [List.getElem?_eq_getElem hk, h])]; simp
    | P i j => have := w.pair k i j (by rw [List.getElem?_eq_getElem hk, h]); omega
  | succ n ih =>
    intro k hn hk
    cases h : s[k] with
    | L c => rw [tx_L (by rw [List.getElem?_eq_getElem hk, h])]; simp
    | P i j =>
      have e : s[k]? = some (.P i j) := by rw [List.getElem?_eq_getElem hk, h]
      have := w.pair k i j e
      rw [tx_P w e, List.length_append]
      have := ih i (by omega) (by omega)
      omega
/-- the letters are below 128 -/
theorem tx_low {s : List Sy} (w : WF s) : ∀ (n k : Nat), k ≤ n → k < s.length → ∀ c ∈ tx s k, c < 128 := by
  intro n
  induction n with
  | zero =>
    intro k hn hk c hc
    cases h : s[k] with
    | L c' =>
      rw [tx_L (by rw [List.getElem?_eq_getElem hk, h])] at hc
      simp at hc
      subst hc
      exact w.let' c (h ▸ List.getElem_mem hk)
    | P i j => have := w.pair k i j (by rw [List.getElem?_eq_getElem hk, h]); omega
  | succ n ih =>
    intro k hn hk c hc
    cases h : s[k] with
    | L c' =>
      rw [tx_L (by rw [List.getElem?_eq_getElem hk, h])] at hc
      simp at hc
      subst hc
      exact w.let' c (h ▸ List.getElem_mem hk)
    | P i j =>
      have e : s[k]? = some (.P i j) := by rw [List.getElem?_eq_getElem hk, h]
      have := w.pair k i j e
      rw [tx_P w e] at hc
      rcases List.mem_append.mp hc with hc | hc
      · exact ih i (by omega) (by omega) c hc
      · exact ih j (by omega) (by omega) c hc
/-! ### symbols as data -/
abbrev sy (s : List Sy) : D := .list (s.map Sy.d)
theorem sy_get {s : List Sy} {k : Nat} {x : Sy} (h : s[k]? = some x) : ixD (sy s) (.int (k : Int)) = some x.d := ix_nat (by simp [h])
theorem eqs {x y : Str} {b : Bool} (h : decide (x = y) = b) : eqD (.str x) (.str y) = some (.bool b) := by subst h; rfl
theorem nes {x y : Str} {b : Bool} (h : decide (x = y) = b) : neD (.str x) (.str y) = some (.bool !b) := by subst h; rfl
theorem str_pl : eqD (.str ("letter" : String)) (.str ("letter" : String)) = some (.bool true) := eqs (by decide +kernel)
theorem str_pp : eqD (.str ("pair" : String)) (.str ("letter" : String)) = some (.bool false) := eqs (by decide +kernel)
theorem str_lp : eqD (.str ("letter" : String)) (.str ("pair" : String)) = some (.bool false) := eqs (by decide +kernel)
theorem str_pq : eqD (.str ("pair" : String)) (.str ("pair" : String)) = some (.bool true) := eqs (by decide +kernel)
theorem d_L0 {c : Nat} : ixD (Sy.L c).d (.int 0) = some (.str ("letter" : String)) := rfl
theorem d_L1 {c : Nat} : ixD (Sy.L c).d (.int 1) = some (.str (txS [c])) := rfl
theorem d_P0 {i j : Nat} : ixD (Sy.P i j).d (.int 0) = some (.str ("pair" : String)) := rfl
theorem d_P1 {i j : Nat} : ixD (Sy.P i j).d (.int 1) = some (.int i) := rfl
theorem d_P2 {i j : Nat} : ixD (Sy.P i j).d (.int 2) = some (.int j) := rfl
/-- sizes of the first n -/
abbrev szl (s : List Sy) : D := .list ((txs s).map fun t => .int t.length)
theorem szl_get {s : List Sy} {k : Nat} (h : k < s.length) : ixD (szl s) (.int (k : Int)) = some (.int (tx s k).length) := ix_nat (by rw [List.getElem?_map, tx_get h]; rfl)
theorem szl_snoc {s : List Sy} {k : Nat} {x : Sy} (h : s[k]? = some x) : (.list (((txs (s.take k)).map fun t => PyData.int t.length) ++ [.int (tx s k).length]) : D) = szl (s.take (k + 1)) := by
  rw [szl, take_snoc h, txs_snoc, tx_at h]; simp
theorem map_get {α β : Type} {f : α → β} {s : List α} {k : Nat} {d : β} (h : (s.map f)[k]? = some d) : ∃ x, s[k]? = some x ∧ d = f x := by
  rw [List.getElem?_map] at h
  cases e : s[k]? with
  | none => rw [e] at h; cases h
  | some x => rw [e] at h; cases h; exact ⟨x, rfl, rfl⟩
theorem sizes_ok {s : List Sy} (w : WF s) (hz : s.length < 1000) : m_sizes [sy s] = .ok (szl s) := by
  suffices H : ∃ x, o_sizes [some (sy s), none, none] = x ∧ x = .rt (szl s) by
    obtain ⟨x, h1, rfl⟩ := H
    exact run_rt h1
  refine seq_ex (e := [some (sy s), some (szl []), none]) ?_ ?_
  · simp only [ap_var, ap_c, ap_m1, ap_m2, ap_m3, ap_part, ap_nopart, ap_if, ap_isN, ap_notN, ap_list, ap_tup, ap_nil, ap_cons, ap_cb, ap_m1m, ap_chain, ap_isi, ap_mB, ap_asB, ap_and, ap_or, ap_not, ap_yes, ap_call, ap_lc, ap_noX, ap_iseq, ap_iown, ap_seq, th_nx, th_rt, th_exc, ap_skip, ap_set, ap_asg, ap_aug, ap_lm, ap_put, ap_oif, ap_ret, ap_drop, ap_raise, ap_gN, ap_gT, ap_gsN, ap_gsC, ap_app, Res.bind_ok, Res.bind_exc, Res.of_some, exOut_ok, exOut_exc, wipeE, Option.bind_some, List.length_cons, List.length_nil, List.getElem?_cons_zero, List.getElem?_cons_succ, List.set_cons_zero, List.set_cons_succ, List.map_cons, List.map_nil, addD, subD, cmpI, negD, modD, ap_lenL, ap_lenT, intD, int1, int2, walkD, if_true, if_false, decide_eq_true_eq, Bool.false_eq_true, reduceIte, Nat.reduceAdd, Nat.reduceSub, List.replicate_succ, List.replicate_zero, List.cons_append, List.nil_append, sz_ge (show 0 ≤ 16777216 by omega)]
    rfl
  refine seq_for (fun n e => ∃ j, e = [some (sy s), some (szl (s.take n)), j]) (s.map Sy.d) rfl ⟨none, rfl⟩ ?_ ?_
  · rintro n d e hd ⟨j, rfl⟩
    obtain ⟨x, hx, rfl⟩ := map_get hd
    have hn := lt_of_get hx
    refine ⟨_, [some (sy s), some (szl (s.take (n + 1))), some x.d], rfl, ?_, _, rfl⟩
    have hz2 : ((txs (s.take n)).map fun t => PyData.int t.length).length < sizeLine := sz_gt (by simp [txs_length]; omega)
    rw [← szl_snoc hx]
    cases x with
    | L c =>
      simp only [ap_var, ap_c, ap_m1, ap_m2, ap_m3, ap_part, ap_nopart, ap_if, ap_isN, ap_notN, ap_list, ap_tup, ap_nil, ap_cons, ap_cb, ap_m1m, ap_chain, ap_isi, ap_mB, ap_asB, ap_and, ap_or, ap_not, ap_yes, ap_call, ap_lc, ap_noX, ap_iseq, ap_iown, ap_seq, th_nx, th_rt, th_exc, ap_skip, ap_set, ap_asg, ap_aug, ap_lm, ap_put, ap_oif, ap_ret, ap_drop, ap_raise, ap_gN, ap_gT, ap_gsN, ap_gsC, ap_app, Res.bind_ok, Res.bind_exc, Res.of_some, exOut_ok, exOut_exc, wipeE, Option.bind_some, List.length_cons, List.length_nil, List.getElem?_cons_zero, List.getElem?_cons_succ, List.set_cons_zero, List.set_cons_succ, List.map_cons, List.map_nil, addD, subD, cmpI, negD, modD, ap_lenL, ap_lenT, intD, int1, int2, walkD, if_true, if_false, decide_eq_true_eq, Bool.false_eq_true, reduceIte, Nat.reduceAdd, Nat.reduceSub, List.replicate_succ, List.replicate_zero, List.cons_append, List.nil_append, d_L0, str_pl, hz2, tx_L hx]
      rfl
    | P i j =>
      obtain ⟨hi, hj⟩ := w.pair n i j hx
      have h1 := szl_get (s := s.take n) (k := i) (by simp; omega)
      have h2 := szl_get (s := s.take n) (k := j) (by simp; omega)
      rw [tx_take hi (by omega)] at h1
      rw [tx_take hj (by omega)] at h2
      simp only [ap_var, ap_c, ap_m1, ap_m2, ap_m3, ap_part, ap_nopart, ap_if, ap_isN, ap_notN, ap_list, ap_tup, ap_nil, ap_cons, ap_cb, ap_m1m, ap_chain, ap_isi, ap_mB, ap_asB, ap_and, ap_or, ap_not, ap_yes, ap_call, ap_lc, ap_noX, ap_iseq, ap_iown, ap_seq, th_nx, th_rt, th_exc, ap_skip, ap_set, ap_asg, ap_aug, ap_lm, ap_put, ap_oif, ap_ret, ap_drop, ap_raise, ap_gN, ap_gT, ap_gsN, ap_gsC, ap_app, Res.bind_ok, Res.bind_exc, Res.of_some, exOut_ok, exOut_exc, wipeE, Option.bind_some, List.length_cons, List.length_nil, List.getElem?_cons_zero, List.getElem?_cons_succ, List.set_cons_zero, List.set_cons_succ, List.map_cons, List.map_nil, addD, subD, cmpI, negD, modD, ap_lenL, ap_lenT, intD, int1, int2, walkD, if_true, if_false, decide_eq_true_eq, Bool.false_eq_true, reduceIte, Nat.reduceAdd, Nat.reduceSub, List.replicate_succ, List.replicate_zero, List.cons_append, List.nil_append, d_P0, d_P1, d_P2, str_pp, h1, h2, hz2, tx_P w hx]
      simp
  · rintro e ⟨j, rfl⟩
    refine ⟨_, ?_, rfl⟩
    simp only [ap_var, ap_c, ap_m1, ap_m2, ap_m3, ap_part, ap_nopart, ap_if, ap_isN, ap_notN, ap_list, ap_tup, ap_nil, ap_cons, ap_cb, ap_m1m, ap_chain, ap_isi, ap_mB, ap_asB, ap_and, ap_or, ap_not, ap_yes, ap_call, ap_lc, ap_noX, ap_iseq, ap_iown, ap_seq, th_nx, th_rt, th_exc, ap_skip, ap_set, ap_asg, ap_aug, ap_lm, ap_put, ap_oif, ap_ret, ap_drop, ap_raise, ap_gN, ap_gT, ap_gsN, ap_gsC, ap_app, Res.bind_ok, Res.bind_exc, Res.of_some, exOut_ok, exOut_exc, wipeE, Option.bind_some, List.length_cons, List.length_nil, List.getElem?_cons_zero, List.getElem?_cons_succ, List.set_cons_zero, List.set_cons_succ, List.map_cons, List.map_nil, addD, subD, cmpI, negD, modD, ap_lenL, ap_lenT, intD, int1, int2, walkD, if_true, if_false, decide_eq_true_eq, Bool.false_eq_true, reduceIte, Nat.reduceAdd, Nat.reduceSub, List.replicate_succ, List.replicate_zero, List.cons_append, List.nil_append]
    simp
end K70

namespace K70
open PySem PySem.Spec L2 DL
theorem pop_snoc {i : Nat} {f : D → Env' → Option Env'} {env : Env'} {is : List D} {d : D} (h : env[i]? = some (some (.list (is ++ [d])))) : oPop i f env = match f d (env.set i (some (.list is))) with
  | some e => .nx e
  | none => .err := by
  unfold oPop
  rw [h]
  simp
  all_goals (cases f d (List.set env i (some (PyData.list is))) <;> rfl)
def item (s : List Sy) (k : Nat) : D := .tuple [.int k, .int 0, .int (tx s k).length]
theorem letters_ok {s : List Sy} (w : WF s) (hz : s.length < 1000) {k0 : Nat} (hk0 : k0 < s.length) (hl : (tx s k0).length ≤ 4000) :
    m_letters_from [sy s, szl s, .int k0, .int 0, .int (tx s k0).length] = .ok (.str (txS (tx s k0))) := by
  suffices H : ∃ x, o_letters_from [some (sy s), some (szl s), some (.int k0), some (.int 0), some (.int (tx s k0).length), none, none, none, none, none, none] = x ∧ x = .rt (.str (txS (tx s k0))) by
    obtain ⟨x, h1, rfl⟩ := H
    exact run_rt h1
  have n3 : 3 ≤ sizeLine := sz_ge (by omega)
  have n1 : 1 ≤ sizeLine := sz_ge (by omega)
  refine seq_ex (e := [some (sy s), some (szl s), some (.int k0), some (.int 0), some (.int (tx s k0).length), some (.str (txS [])), none, none, none, none, none]) ?_ ?_
  · simp only [ap_var, ap_c, ap_m1, ap_m2, ap_m3, ap_part, ap_nopart, ap_if, ap_isN, ap_notN, ap_list, ap_tup, ap_nil, ap_cons, ap_cb, ap_m1m, ap_chain, ap_isi, ap_mB, ap_asB, ap_and, ap_or, ap_not, ap_yes, ap_call, ap_lc, ap_noX, ap_iseq, ap_iown, ap_seq, th_nx, th_rt, th_exc, ap_skip, ap_set, ap_asg, ap_aug, ap_lm, ap_put, ap_oif, ap_ret, ap_drop, ap_raise, ap_gN, ap_gT, ap_gsN, ap_gsC, ap_app, Res.bind_ok, Res.bind_exc, Res.of_some, exOut_ok, exOut_exc, wipeE, Option.bind_some, List.length_cons, List.length_nil, List.getElem?_cons_zero, List.getElem?_cons_succ, List.set_cons_zero, List.set_cons_succ, List.map_cons, List.map_nil, addD, subD, cmpI, negD, modD, ap_lenL, ap_lenT, intD, int1, int2, walkD, if_true, if_false, decide_eq_true_eq, Bool.false_eq_true, reduceIte, Nat.reduceAdd, Nat.reduceSub, List.replicate_succ, List.replicate_zero, List.cons_append, List.nil_append]
    rfl
  refine seq_ex (e := [some (sy s), some (szl s), some (.int k0), some (.int 0), some (.int (tx s k0).length), some (.str (txS [])), some (.list [item s k0]), none, none, none, none]) ?_ ?_
  · simp only [ap_var, ap_c, ap_m1, ap_m2, ap_m3, ap_part, ap_nopart, ap_if, ap_isN, ap_notN, ap_list, ap_tup, ap_nil, ap_cons, ap_cb, ap_m1m, ap_chain, ap_isi, ap_mB, ap_asB, ap_and, ap_or, ap_not, ap_yes, ap_call, ap_lc, ap_noX, ap_iseq, ap_iown, ap_seq, th_nx, th_rt, th_exc, ap_skip, ap_set, ap_asg, ap_aug, ap_lm, ap_put, ap_oif, ap_ret, ap_drop, ap_raise, ap_gN, ap_gT, ap_gsN, ap_gsC, ap_app, Res.bind_ok, Res.bind_exc, Res.of_some, exOut_ok, exOut_exc, wipeE, Option.bind_some, List.length_cons, List.length_nil, List.getElem?_cons_zero, List.getElem?_cons_succ, List.set_cons_zero, List.set_cons_succ, List.map_cons, List.map_nil, addD, subD, cmpI, negD, modD, ap_lenL, ap_lenT, intD, int1, int2, walkD, if_true, if_false, decide_eq_true_eq, Bool.false_eq_true, reduceIte, Nat.reduceAdd, Nat.reduceSub, List.replicate_succ, List.replicate_zero, List.cons_append, List.nil_append, n3, n1]
    rfl
  let me : List Nat → Nat := fun ps => (ps.map fun p => 2 * (tx s p).length - 1).sum
  refine seq_while (fun n e => ∃ (acc ps : List Nat) (j2 j3 j4 j7 j8 j9 j10 : Option D), e = [some (sy s), some (szl s), j2, j3, j4, some (.str (txS acc)), some (.list (ps.reverse.map (item s))), j7, j8, j9, j10] ∧ acc ++ (ps.map (tx s)).flatten = tx s k0 ∧ (∀ p ∈ ps, p < s.length) ∧ n = me ps) (me [k0]) ?_ ?_ ?_ ?_
  · simp [me, wfuel]; omega
  · exact ⟨[], [k0], _, _, _, _, _, _, _, rfl, by simp, by simpa using hk0, rfl⟩
  · rintro n e ⟨acc, ps, j2, j3, j4, j7, j8, j9, j10, rfl, q1, q2, rfl⟩
    cases ps with
    | nil =>
      refine .inl ?_
      simp only [ap_var, ap_c, ap_m1, ap_m2, ap_m3, ap_part, ap_nopart, ap_if, ap_isN, ap_notN, ap_list, ap_tup, ap_nil, ap_cons, ap_cb, ap_m1m, ap_chain, ap_isi, ap_mB, ap_asB, ap_and, ap_or, ap_not, ap_yes, ap_call, ap_lc, ap_noX, ap_iseq, ap_iown, ap_seq, th_nx, th_rt, th_exc, ap_skip, ap_set, ap_asg, ap_aug, ap_lm, ap_put, ap_oif, ap_ret, ap_drop, ap_raise, ap_gN, ap_gT, ap_gsN, ap_gsC, ap_app, Res.bind_ok, Res.bind_exc, Res.of_some, exOut_ok, exOut_exc, wipeE, Option.bind_some, List.length_cons, List.length_nil, List.getElem?_cons_zero, List.getElem?_cons_succ, List.set_cons_zero, List.set_cons_succ, List.map_cons, List.map_nil, addD, subD, cmpI, negD, modD, ap_lenL, ap_lenT, intD, int1, int2, walkD, if_true, if_false, decide_eq_true_eq, Bool.false_eq_true, reduceIte, Nat.reduceAdd, Nat.reduceSub, List.replicate_succ, List.replicate_zero, List.cons_append, List.nil_append, List.reverse_nil]
      rfl
    | cons p rest =>
      refine .inr ⟨?_, ?_⟩
      · simp only [ap_var, ap_c, ap_m1, ap_m2, ap_m3, ap_part, ap_nopart, ap_if, ap_isN, ap_notN, ap_list, ap_tup, ap_nil, ap_cons, ap_cb, ap_m1m, ap_chain, ap_isi, ap_mB, ap_asB, ap_and, ap_or, ap_not, ap_yes, ap_call, ap_lc, ap_noX, ap_iseq, ap_iown, ap_seq, th_nx, th_rt, th_exc, ap_skip, ap_set, ap_asg, ap_aug, ap_lm, ap_put, ap_oif, ap_ret, ap_drop, ap_raise, ap_gN, ap_gT, ap_gsN, ap_gsC, ap_app, Res.bind_ok, Res.bind_exc, Res.of_some, exOut_ok, exOut_exc, wipeE, Option.bind_some, List.length_cons, List.length_nil, List.getElem?_cons_zero, List.getElem?_cons_succ, List.set_cons_zero, List.set_cons_succ, List.map_cons, List.map_nil, addD, subD, cmpI, negD, modD, ap_lenL, ap_lenT, intD, int1, int2, walkD, if_true, if_false, decide_eq_true_eq, Bool.false_eq_true, reduceIte, Nat.reduceAdd, Nat.reduceSub, List.replicate_succ, List.replicate_zero, List.cons_append, List.nil_append, List.length_map, List.length_reverse]
        simp
      have hp := q2 p (by simp)
      have hpos := tx_pos w p p (Nat.le_refl _) hp
      have hpos' : (0 : Int) < ((tx s p).length : Int) := by omega
      have hacc : acc.length + (tx s p).length ≤ 4000 := by
        have := congrArg List.length q1
        simp at this
        omega
      have e0 : ((p :: rest).reverse.map (item s)) = rest.reverse.map (item s) ++ [item s p] := by simp
      obtain ⟨x, hx⟩ : ∃ x, s[p]? = some x := ⟨_, List.getElem?_eq_getElem hp⟩
      have hi := sy_get hx
      rw [e0]
      have hpop : ∀ o, oSeq (oPop 6 (gT' 3 (gsC (gN 2) (gsC (gN 3) (gsC (gN 4) gsN))))) o [some (sy s), some (szl s), j2, j3, j4, some (.str (txS acc)), some (.list (rest.reverse.map (item s) ++ [item s p])), j7, j8, j9, j10]
          = o [some (sy s), some (szl s), some (.int p), some (.int 0), some (.int (tx s p).length), some (.str (txS acc)), some (.list (rest.reverse.map (item s))), j7, j8, j9, j10] := fun o => by
        rw [ap_seq, pop_snoc rfl, item]
        simp only [ap_var, ap_c, ap_m1, ap_m2, ap_m3, ap_part, ap_nopart, ap_if, ap_isN, ap_notN, ap_list, ap_tup, ap_nil, ap_cons, ap_cb, ap_m1m, ap_chain, ap_isi, ap_mB, ap_asB, ap_and, ap_or, ap_not, ap_yes, ap_call, ap_lc, ap_noX, ap_iseq, ap_iown, ap_seq, th_nx, th_rt, th_exc, ap_skip, ap_set, ap_asg, ap_aug, ap_lm, ap_put, ap_oif, ap_ret, ap_drop, ap_raise, ap_gN, ap_gT, ap_gsN, ap_gsC, ap_app, Res.bind_ok, Res.bind_exc, Res.of_some, exOut_ok, exOut_exc, wipeE, Option.bind_some, List.length_cons, List.length_nil, List.getElem?_cons_zero, List.getElem?_cons_succ, List.set_cons_zero, List.set_cons_succ, List.map_cons, List.map_nil, addD, subD, cmpI, negD, modD, ap_lenL, ap_lenT, intD, int1, int2, walkD, if_true, if_false, decide_eq_true_eq, Bool.false_eq_true, reduceIte, Nat.reduceAdd, Nat.reduceSub, List.replicate_succ, List.replicate_zero, List.cons_append, List.nil_append]
      cases x with
      | L c =>
        refine ⟨[some (sy s), some (szl s), some (.int p), some (.int 0), some (.int (tx s p).length), some (.str (txS (acc ++ [c]))), some (.list (rest.reverse.map (item s))), j7, j8, j9, j10], me rest, ?_, ?_, acc ++ [c], rest, _, _, _, _, _, _, _, rfl, ?_, fun q hq => q2 q (by simp [hq]), rfl⟩
        · rw [hpop]
          have z : (txS acc).length + (txS [c]).length ≤ sizeLine := sz_ge (by rw [txS_length, txS_length]; simp; omega)
          simp only [ap_var, ap_c, ap_m1, ap_m2, ap_m3, ap_part, ap_nopart, ap_if, ap_isN, ap_notN, ap_list, ap_tup, ap_nil, ap_cons, ap_cb, ap_m1m, ap_chain, ap_isi, ap_mB, ap_asB, ap_and, ap_or, ap_not, ap_yes, ap_call, ap_lc, ap_noX, ap_iseq, ap_iown, ap_seq, th_nx, th_rt, th_exc, ap_skip, ap_set, ap_asg, ap_aug, ap_lm, ap_put, ap_oif, ap_ret, ap_drop, ap_raise, ap_gN, ap_gT, ap_gsN, ap_gsC, ap_app, Res.bind_ok, Res.bind_exc, Res.of_some, exOut_ok, exOut_exc, wipeE, Option.bind_some, List.length_cons, List.length_nil, List.getElem?_cons_zero, List.getElem?_cons_succ, List.set_cons_zero, List.set_cons_succ, List.map_cons, List.map_nil, addD, subD, cmpI, negD, modD, ap_lenL, ap_lenT, intD, int1, int2, walkD, if_true, if_false, decide_eq_true_eq, Bool.false_eq_true, reduceIte, Nat.reduceAdd, Nat.reduceSub, List.replicate_succ, List.replicate_zero, List.cons_append, List.nil_append, hi, d_L0, d_L1, str_pl, hpos', decide_true, augAdd, z, txS_append]
        · simp [me, tx_L hx]
        · rw [← q1]; simp [tx_L hx]
      | P i j =>
        obtain ⟨hi1, hj1⟩ := w.pair p i j hx
        have ht := tx_P w hx
        have htl : (tx s p).length = (tx s i).length + (tx s j).length := by rw [ht, List.length_append]
        have pi := tx_pos w i i (Nat.le_refl _) (by omega)
        have pj := tx_pos w j j (Nat.le_refl _) (by omega)
        have g1 := szl_get (s := s) (k := i) (by omega)
        refine ⟨[some (sy s), some (szl s), some (.int p), some (.int 0), some (.int (tx s p).length), some (.str (txS acc)), some (.list ((i :: j :: rest).reverse.map (item s))), some (.int (tx s i).length), some (.str ("pair" : String)), some (.int i), some (.int j)], me (i :: j :: rest), ?_, ?_, acc, i :: j :: rest, _, _, _, _, _, _, _, rfl, ?_, ?_, rfl⟩
        · rw [hpop]
          have c1 : (if (0 : Int) - ((tx s i).length : Int) > 0 then (0 : Int) - ((tx s i).length : Int) else 0) = 0 := if_neg (by omega)
          have c2 : (if ((tx s p).length : Int) - ((tx s i).length : Int) > 0 then ((tx s p).length : Int) - ((tx s i).length : Int) else 0) = ((tx s j).length : Int) := by
            rw [if_pos (show ((tx s p).length : Int) - ((tx s i).length : Int) > 0 by omega)]; omega
          have c3 : (if ((tx s i).length : Int) < 0 then ((tx s i).length : Int) else 0) = 0 := if_neg (by omega)
          have c4 : (if ((tx s i).length : Int) < ((tx s p).length : Int) then ((tx s i).length : Int) else ((tx s p).length : Int)) = ((tx s i).length : Int) := if_pos (by omega)
          have z0 : rest.length ≤ 4000 := by
            have := congrArg List.length q1
            simp at this
            have h2 : rest.length ≤ (rest.map fun q => (tx s q).length).sum := by
              have : ∀ l : List Nat, (∀ q ∈ l, q < s.length) → l.length ≤ (l.map fun q => (tx s q).length).sum := by
                intro l
                induction l with
                | nil => intro _; simp
                | cons q l ih =>
                  intro h
                  have a1 := ih fun z hz => h z (by simp [hz])
                  have a2 := tx_pos w q q (Nat.le_refl _) (h q (by simp))
                  simp
                  omega
              exact this rest fun q hq => q2 q (by simp [hq])
            have h3 : (rest.map fun q => (tx s q).length).sum = (List.map (List.length ∘ tx s) rest).sum := rfl
            omega
          have z1 : rest.length < sizeLine := sz_gt (by omega)
          have z2 : rest.length + 1 < sizeLine := sz_gt (by omega)
          simp only [ap_var, ap_c, ap_m1, ap_m2, ap_m3, ap_part, ap_nopart, ap_if, ap_isN, ap_notN, ap_list, ap_tup, ap_nil, ap_cons, ap_cb, ap_m1m, ap_chain, ap_isi, ap_mB, ap_asB, ap_and, ap_or, ap_not, ap_yes, ap_call, ap_lc, ap_noX, ap_iseq, ap_iown, ap_seq, th_nx, th_rt, th_exc, ap_skip, ap_set, ap_asg, ap_aug, ap_lm, ap_put, ap_oif, ap_ret, ap_drop, ap_raise, ap_gN, ap_gT, ap_gsN, ap_gsC, ap_app, Res.bind_ok, Res.bind_exc, Res.of_some, exOut_ok, exOut_exc, wipeE, Option.bind_some, List.length_cons, List.length_nil, List.getElem?_cons_zero, List.getElem?_cons_succ, List.set_cons_zero, List.set_cons_succ, List.map_cons, List.map_nil, addD, subD, cmpI, negD, modD, ap_lenL, ap_lenT, intD, int1, int2, walkD, if_true, if_false, decide_eq_true_eq, Bool.false_eq_true, reduceIte, Nat.reduceAdd, Nat.reduceSub, List.replicate_succ, List.replicate_zero, List.cons_append, List.nil_append, hi, d_P0, d_P1, d_P2, str_pp, hpos', decide_true]
          rw [Sy.d]
          simp only [ap_var, ap_c, ap_m1, ap_m2, ap_m3, ap_part, ap_nopart, ap_if, ap_isN, ap_notN, ap_list, ap_tup, ap_nil, ap_cons, ap_cb, ap_m1m, ap_chain, ap_isi, ap_mB, ap_asB, ap_and, ap_or, ap_not, ap_yes, ap_call, ap_lc, ap_noX, ap_iseq, ap_iown, ap_seq, th_nx, th_rt, th_exc, ap_skip, ap_set, ap_asg, ap_aug, ap_lm, ap_put, ap_oif, ap_ret, ap_drop, ap_raise, ap_gN, ap_gT, ap_gsN, ap_gsC, ap_app, Res.bind_ok, Res.bind_exc, Res.of_some, exOut_ok, exOut_exc, wipeE, Option.bind_some, List.length_cons, List.length_nil, List.getElem?_cons_zero, List.getElem?_cons_succ, List.set_cons_zero, List.set_cons_succ, List.map_cons, List.map_nil, addD, subD, cmpI, negD, modD, ap_lenL, ap_lenT, intD, int1, int2, walkD, if_true, if_false, decide_eq_true_eq, Bool.false_eq_true, reduceIte, Nat.reduceAdd, Nat.reduceSub, List.replicate_succ, List.replicate_zero, List.cons_append, List.nil_append, g1, c1, c2, c3, c4, n3, List.length_map, List.length_reverse, List.length_append, z1, z2]
          simp [item]
        · simp [me]; omega
        · rw [← q1]; simp [ht]
        · intro q hq
          simp at hq
          rcases hq with rfl | rfl | hq
          · omega
          · omega
          · exact q2 q (by simp [hq])
  · rintro n e ⟨acc, ps, j2, j3, j4, j7, j8, j9, j10, rfl, q1, q2, rfl⟩ hc
    cases ps with
    | nil =>
      refine ⟨_, ?_, rfl⟩
      simp only [ap_var, ap_c, ap_m1, ap_m2, ap_m3, ap_part, ap_nopart, ap_if, ap_isN, ap_notN, ap_list, ap_tup, ap_nil, ap_cons, ap_cb, ap_m1m, ap_chain, ap_isi, ap_mB, ap_asB, ap_and, ap_or, ap_not, ap_yes, ap_call, ap_lc, ap_noX, ap_iseq, ap_iown, ap_seq, th_nx, th_rt, th_exc, ap_skip, ap_set, ap_asg, ap_aug, ap_lm, ap_put, ap_oif, ap_ret, ap_drop, ap_raise, ap_gN, ap_gT, ap_gsN, ap_gsC, ap_app, Res.bind_ok, Res.bind_exc, Res.of_some, exOut_ok, exOut_exc, wipeE, Option.bind_some, List.length_cons, List.length_nil, List.getElem?_cons_zero, List.getElem?_cons_succ, List.set_cons_zero, List.set_cons_succ, List.map_cons, List.map_nil, addD, subD, cmpI, negD, modD, ap_lenL, ap_lenT, intD, int1, int2, walkD, if_true, if_false, decide_eq_true_eq, Bool.false_eq_true, reduceIte, Nat.reduceAdd, Nat.reduceSub, List.replicate_succ, List.replicate_zero, List.cons_append, List.nil_append]
      simp at q1
      rw [q1]
    | cons p rest =>
      simp only [ap_var, ap_c, ap_m1, ap_m2, ap_m3, ap_part, ap_nopart, ap_if, ap_isN, ap_notN, ap_list, ap_tup, ap_nil, ap_cons, ap_cb, ap_m1m, ap_chain, ap_isi, ap_mB, ap_asB, ap_and, ap_or, ap_not, ap_yes, ap_call, ap_lc, ap_noX, ap_iseq, ap_iown, ap_seq, th_nx, th_rt, th_exc, ap_skip, ap_set, ap_asg, ap_aug, ap_lm, ap_put, ap_oif, ap_ret, ap_drop, ap_raise, ap_gN, ap_gT, ap_gsN, ap_gsC, ap_app, Res.bind_ok, Res.bind_exc, Res.of_some, exOut_ok, exOut_exc, wipeE, Option.bind_some, List.length_cons, List.length_nil, List.getElem?_cons_zero, List.getElem?_cons_succ, List.set_cons_zero, List.set_cons_succ, List.map_cons, List.map_nil, addD, subD, cmpI, negD, modD, ap_lenL, ap_lenT, intD, int1, int2, walkD, if_true, if_false, decide_eq_true_eq, Bool.false_eq_true, reduceIte, Nat.reduceAdd, Nat.reduceSub, List.replicate_succ, List.replicate_zero, List.cons_append, List.nil_append, List.length_map, List.length_reverse] at hc
      simp at hc
end K70

namespace K70
open PySem PySem.Spec L2 DL
def dk (xs ys : List Nat) : Nat → Bool := fun k => !decide (xs[k]? = ys[k]?)
def dueD (xs ys : List Nat) : D := match (List.range (min xs.length ys.length)).find? (dk xs ys) with
  | some k => .int k
  | none => if xs.length = ys.length then .none else .int (min xs.length ys.length : Nat)
theorem ne_at {xs ys : List Nat} {k a b : Nat} (ha : xs[k]? = some a) (hb : ys[k]? = some b) : neD (.str (txS [a])) (.str (txS [b])) = some (.bool (dk xs ys k)) := by
  refine (nes rfl).trans ?_
  unfold dk
  rw [ha, hb]
  by_cases h : a = b
  · subst h; simp
  · have h2 : ¬ txS [a] = txS [b] := fun z => h (by simpa using txS_inj z)
    simp [h, h2]
theorem min_nat (a b : Nat) : (if (b : Int) < (a : Int) then (b : Int) else (a : Int)) = ((min a b : Nat) : Int) := by
  split <;> omega
theorem due_ok {xs ys : List Nat} (hx : xs.length ≤ 4000) (hy : ys.length ≤ 4000) : m__law_due [.str (txS xs), .str (txS ys)] = .ok (dueD xs ys) := by
  refine run_rt ?_
  show o__law_due [some (.str (txS xs)), some (.str (txS ys)), none] = _
  have zx : xs.length ≤ sizeLine := sz_ge (by omega)
  have zy : ys.length ≤ sizeLine := sz_ge (by omega)
  unfold o__law_due
  rcases seq_find (n := min xs.length ys.length) (v := 2) (env := [some (.str (txS xs)), some (.str (txS ys)), none]) (mi := iRange (aCons (mCB minD (aCons (mCB lenD (aCons (mVar 0) aNil)) (aCons (mCB lenD (aCons (mVar 1) aNil)) aNil))) aNil)) (o := (oSeq (oIf (mB (m2 neD (m2 ixD (mVar 0) (mVar 2)) (m2 ixD (mVar 1) (mVar 2)))) (oRet (mVar 2)) oSkip) oSkip)) (o2 := (oRet (m2 ixD (mList (aCons (mC .none) (aCons (mCB minD (aCons (mCB lenD (aCons (mVar 0) aNil)) (aCons (mCB lenD (aCons (mVar 1) aNil)) aNil))) aNil))) (mCB intD (aCons (m2 neD (mCB lenD (aCons (mVar 0) aNil)) (mCB lenD (aCons (mVar 1) aNil))) aNil)))))
    (dk xs ys) (fun k => .int k) (by
      refine irange_ok (l := [.int (min xs.length ys.length : Nat)]) ?_ ?_
      · simp only [ap_var, ap_c, ap_m1, ap_m2, ap_m3, ap_part, ap_nopart, ap_if, ap_isN, ap_notN, ap_list, ap_tup, ap_nil, ap_cons, ap_cb, ap_m1m, ap_chain, ap_isi, ap_mB, ap_asB, ap_and, ap_or, ap_not, ap_yes, ap_call, ap_lc, ap_noX, ap_iseq, ap_iown, ap_seq, th_nx, th_rt, th_exc, ap_skip, ap_set, ap_asg, ap_aug, ap_lm, ap_put, ap_oif, ap_ret, ap_drop, ap_raise, ap_gN, ap_gT, ap_gsN, ap_gsC, ap_app, Res.bind_ok, Res.bind_exc, Res.of_some, exOut_ok, exOut_exc, wipeE, Option.bind_some, List.length_cons, List.length_nil, List.getElem?_cons_zero, List.getElem?_cons_succ, List.set_cons_zero, List.set_cons_succ, List.map_cons, List.map_nil, addD, subD, cmpI, negD, modD, ap_lenL, ap_lenT, intD, int1, int2, walkD, if_true, if_false, decide_eq_true_eq, Bool.false_eq_true, reduceIte, Nat.reduceAdd, Nat.reduceSub, List.replicate_succ, List.replicate_zero, List.cons_append, List.nil_append, ap_lenS zx, ap_lenS zy, min_nat]
      exact range1 (Nat.lt_of_le_of_lt (Nat.le_trans (Nat.min_le_left _ _) hx) (by decide))) (fun k hk => by
      have ha : xs[k]? = some xs[k] := List.getElem?_eq_getElem (by omega)
      have hb : ys[k]? = some ys[k] := List.getElem?_eq_getElem (by omega)
      simp only [ap_var, ap_c, ap_m1, ap_m2, ap_m3, ap_part, ap_nopart, ap_if, ap_isN, ap_notN, ap_list, ap_tup, ap_nil, ap_cons, ap_cb, ap_m1m, ap_chain, ap_isi, ap_mB, ap_asB, ap_and, ap_or, ap_not, ap_yes, ap_call, ap_lc, ap_noX, ap_iseq, ap_iown, ap_seq, th_nx, th_rt, th_exc, ap_skip, ap_set, ap_asg, ap_aug, ap_lm, ap_put, ap_oif, ap_ret, ap_drop, ap_raise, ap_gN, ap_gT, ap_gsN, ap_gsC, ap_app, Res.bind_ok, Res.bind_exc, Res.of_some, exOut_ok, exOut_exc, wipeE, Option.bind_some, List.length_cons, List.length_nil, List.getElem?_cons_zero, List.getElem?_cons_succ, List.set_cons_zero, List.set_cons_succ, List.map_cons, List.map_nil, addD, subD, cmpI, negD, modD, ap_lenL, ap_lenT, intD, int1, int2, walkD, if_true, if_false, decide_eq_true_eq, Bool.false_eq_true, reduceIte, Nat.reduceAdd, Nat.reduceSub, List.replicate_succ, List.replicate_zero, List.cons_append, List.nil_append, ix_str zx ha, ix_str zy hb, ne_at ha hb]
      cases dk xs ys k <;> rfl) with ⟨k, h1, h2⟩ | ⟨h1, e, he, h2⟩
  · rw [h2, dueD, h1]
  · rw [h2, dueD, h1]
    have h2l : 2 ≤ sizeLine := sz_ge (by omega)
    have key : ∀ j, oRet (m2 ixD (mList (aCons (mC .none) (aCons (mCB minD (aCons (mCB lenD (aCons (mVar 0) aNil)) (aCons (mCB lenD (aCons (mVar 1) aNil)) aNil))) aNil))) (mCB intD (aCons (m2 neD (mCB lenD (aCons (mVar 0) aNil)) (mCB lenD (aCons (mVar 1) aNil))) aNil))) [some (.str (txS xs)), some (.str (txS ys)), j] = .rt (if xs.length = ys.length then .none else .int (min xs.length ys.length : Nat)) := by
      intro j
      simp only [ap_var, ap_c, ap_m1, ap_m2, ap_m3, ap_part, ap_nopart, ap_if, ap_isN, ap_notN, ap_list, ap_tup, ap_nil, ap_cons, ap_cb, ap_m1m, ap_chain, ap_isi, ap_mB, ap_asB, ap_and, ap_or, ap_not, ap_yes, ap_call, ap_lc, ap_noX, ap_iseq, ap_iown, ap_seq, th_nx, th_rt, th_exc, ap_skip, ap_set, ap_asg, ap_aug, ap_lm, ap_put, ap_oif, ap_ret, ap_drop, ap_raise, ap_gN, ap_gT, ap_gsN, ap_gsC, ap_app, Res.bind_ok, Res.bind_exc, Res.of_some, exOut_ok, exOut_exc, wipeE, Option.bind_some, List.length_cons, List.length_nil, List.getElem?_cons_zero, List.getElem?_cons_succ, List.set_cons_zero, List.set_cons_succ, List.map_cons, List.map_nil, addD, subD, cmpI, negD, modD, ap_lenL, ap_lenT, intD, int1, int2, walkD, if_true, if_false, decide_eq_true_eq, Bool.false_eq_true, reduceIte, Nat.reduceAdd, Nat.reduceSub, List.replicate_succ, List.replicate_zero, List.cons_append, List.nil_append, ap_lenS zx, ap_lenS zy, min_nat, h2l, neD, eqB, Option.map_some]
      by_cases h : xs.length = ys.length
      · have h' : ((xs.length : Int) = (ys.length : Int)) := by omega
        simp only [ap_var, ap_c, ap_m1, ap_m2, ap_m3, ap_part, ap_nopart, ap_if, ap_isN, ap_notN, ap_list, ap_tup, ap_nil, ap_cons, ap_cb, ap_m1m, ap_chain, ap_isi, ap_mB, ap_asB, ap_and, ap_or, ap_not, ap_yes, ap_call, ap_lc, ap_noX, ap_iseq, ap_iown, ap_seq, th_nx, th_rt, th_exc, ap_skip, ap_set, ap_asg, ap_aug, ap_lm, ap_put, ap_oif, ap_ret, ap_drop, ap_raise, ap_gN, ap_gT, ap_gsN, ap_gsC, ap_app, Res.bind_ok, Res.bind_exc, Res.of_some, exOut_ok, exOut_exc, wipeE, Option.bind_some, List.length_cons, List.length_nil, List.getElem?_cons_zero, List.getElem?_cons_succ, List.set_cons_zero, List.set_cons_succ, List.map_cons, List.map_nil, addD, subD, cmpI, negD, modD, ap_lenL, ap_lenT, intD, int1, int2, walkD, if_true, if_false, decide_eq_true_eq, Bool.false_eq_true, reduceIte, Nat.reduceAdd, Nat.reduceSub, List.replicate_succ, List.replicate_zero, List.cons_append, List.nil_append, h, h', decide_true, Bool.not_true]
        rfl
      · have h' : ¬ ((xs.length : Int) = (ys.length : Int)) := by omega
        simp only [ap_var, ap_c, ap_m1, ap_m2, ap_m3, ap_part, ap_nopart, ap_if, ap_isN, ap_notN, ap_list, ap_tup, ap_nil, ap_cons, ap_cb, ap_m1m, ap_chain, ap_isi, ap_mB, ap_asB, ap_and, ap_or, ap_not, ap_yes, ap_call, ap_lc, ap_noX, ap_iseq, ap_iown, ap_seq, th_nx, th_rt, th_exc, ap_skip, ap_set, ap_asg, ap_aug, ap_lm, ap_put, ap_oif, ap_ret, ap_drop, ap_raise, ap_gN, ap_gT, ap_gsN, ap_gsC, ap_app, Res.bind_ok, Res.bind_exc, Res.of_some, exOut_ok, exOut_exc, wipeE, Option.bind_some, List.length_cons, List.length_nil, List.getElem?_cons_zero, List.getElem?_cons_succ, List.set_cons_zero, List.set_cons_succ, List.map_cons, List.map_nil, addD, subD, cmpI, negD, modD, ap_lenL, ap_lenT, intD, int1, int2, walkD, if_true, if_false, decide_eq_true_eq, Bool.false_eq_true, reduceIte, Nat.reduceAdd, Nat.reduceSub, List.replicate_succ, List.replicate_zero, List.cons_append, List.nil_append, h, h', decide_false, Bool.not_false]
        rfl
    rcases he with rfl | ⟨j, rfl⟩
    · exact key _
    · exact key _
end K70

namespace K70
open PySem PySem.Spec L2 DL
theorem add_str {x y : Str} (h : x.length + y.length ≤ sizeLine) : addD (.str x) (.str y) = some (.str (x ++ y)) := if_pos h
theorem ix0 {a : D} {l : List D} : ixD (.tuple (a :: l)) (.int 0) = some a := ix_tup (n := 0) rfl
theorem check_in {s : List Sy} {R : D} {k : Nat} (h : k < s.length) : m_check_symbol [.tuple [sy s, R], .int k] = .ok .none := by
  refine run_nx (e := [some (.tuple [sy s, R]), some (.int k)]) ?_
  have h1 : (0 : Int) ≤ (k : Int) := by omega
  have h2 : (k : Int) < (s.length : Int) := by omega
  simp only [o_check_symbol, ap_var, ap_c, ap_m1, ap_m2, ap_m3, ap_part, ap_nopart, ap_if, ap_isN, ap_notN, ap_list, ap_tup, ap_nil, ap_cons, ap_cb, ap_m1m, ap_chain, ap_isi, ap_mB, ap_asB, ap_and, ap_or, ap_not, ap_yes, ap_call, ap_lc, ap_noX, ap_iseq, ap_iown, ap_seq, th_nx, th_rt, th_exc, ap_skip, ap_set, ap_asg, ap_aug, ap_lm, ap_put, ap_oif, ap_ret, ap_drop, ap_raise, ap_gN, ap_gT, ap_gsN, ap_gsC, ap_app, Res.bind_ok, Res.bind_exc, Res.of_some, exOut_ok, exOut_exc, wipeE, Option.bind_some, List.length_cons, List.length_nil, List.getElem?_cons_zero, List.getElem?_cons_succ, List.set_cons_zero, List.set_cons_succ, List.map_cons, List.map_nil, addD, subD, cmpI, negD, modD, ap_lenL, ap_lenT, intD, int1, int2, walkD, if_true, if_false, decide_eq_true_eq, Bool.false_eq_true, reduceIte, Nat.reduceAdd, Nat.reduceSub, List.replicate_succ, List.replicate_zero, List.cons_append, List.nil_append, ix0, List.length_map, h1, h2, decide_true, Bool.not_true]
theorem check_out {s : List Sy} {R : D} {k : Int} (h : ¬ (0 ≤ k ∧ k < s.length)) : m_check_symbol [.tuple [sy s, R], .int k] = .exc "OutOfRange" (.int k) := by
  refine run_exc (e := [some (.tuple [sy s, R]), some (.int k)]) ?_
  by_cases h1 : (0 : Int) ≤ k
  · have h2 : ¬ k < (s.length : Int) := fun z => h ⟨h1, z⟩
    simp only [o_check_symbol, ap_var, ap_c, ap_m1, ap_m2, ap_m3, ap_part, ap_nopart, ap_if, ap_isN, ap_notN, ap_list, ap_tup, ap_nil, ap_cons, ap_cb, ap_m1m, ap_chain, ap_isi, ap_mB, ap_asB, ap_and, ap_or, ap_not, ap_yes, ap_call, ap_lc, ap_noX, ap_iseq, ap_iown, ap_seq, th_nx, th_rt, th_exc, ap_skip, ap_set, ap_asg, ap_aug, ap_lm, ap_put, ap_oif, ap_ret, ap_drop, ap_raise, ap_gN, ap_gT, ap_gsN, ap_gsC, ap_app, Res.bind_ok, Res.bind_exc, Res.of_some, exOut_ok, exOut_exc, wipeE, Option.bind_some, List.length_cons, List.length_nil, List.getElem?_cons_zero, List.getElem?_cons_succ, List.set_cons_zero, List.set_cons_succ, List.map_cons, List.map_nil, addD, subD, cmpI, negD, modD, ap_lenL, ap_lenT, intD, int1, int2, walkD, if_true, if_false, decide_eq_true_eq, Bool.false_eq_true, reduceIte, Nat.reduceAdd, Nat.reduceSub, List.replicate_succ, List.replicate_zero, List.cons_append, List.nil_append, ix0, List.length_map, h1, h2, decide_true, decide_false, Bool.not_false]
  · simp only [o_check_symbol, ap_var, ap_c, ap_m1, ap_m2, ap_m3, ap_part, ap_nopart, ap_if, ap_isN, ap_notN, ap_list, ap_tup, ap_nil, ap_cons, ap_cb, ap_m1m, ap_chain, ap_isi, ap_mB, ap_asB, ap_and, ap_or, ap_not, ap_yes, ap_call, ap_lc, ap_noX, ap_iseq, ap_iown, ap_seq, th_nx, th_rt, th_exc, ap_skip, ap_set, ap_asg, ap_aug, ap_lm, ap_put, ap_oif, ap_ret, ap_drop, ap_raise, ap_gN, ap_gT, ap_gsN, ap_gsC, ap_app, Res.bind_ok, Res.bind_exc, Res.of_some, exOut_ok, exOut_exc, wipeE, Option.bind_some, List.length_cons, List.length_nil, List.getElem?_cons_zero, List.getElem?_cons_succ, List.set_cons_zero, List.set_cons_succ, List.map_cons, List.map_nil, addD, subD, cmpI, negD, modD, ap_lenL, ap_lenT, intD, int1, int2, walkD, if_true, if_false, decide_eq_true_eq, Bool.false_eq_true, reduceIte, Nat.reduceAdd, Nat.reduceSub, List.replicate_succ, List.replicate_zero, List.cons_append, List.nil_append, ix0, List.length_map, h1, decide_false, Bool.not_false]
/-- what the difference of two symbols is -/
def fdR (s : List Sy) (a b : Int) : Res D :=
  if ¬ (0 ≤ a ∧ a < s.length) then .exc "OutOfRange" (.int a)
  else if ¬ (0 ≤ b ∧ b < s.length) then .exc "OutOfRange" (.int b)
  else if 4000 < (tx s a.toNat).length then .exc "TooLong" (.int (tx s a.toNat).length)
  else if 4000 < (tx s b.toNat).length then .exc "TooLong" (.int (tx s b.toNat).length)
  else .ok (dueD (tx s a.toNat) (tx s b.toNat))
theorem run_of {kr : Kd} {n : Nat} {o : Env' → Out} {ds : List D} {r : Res D} (h : ∃ x, o (ds.map some ++ List.replicate (n - ds.length) none) = x ∧ ((∃ d, x = .rt d ∧ r = .ok d) ∨ ∃ c d e, x = .exc c d e ∧ r = .exc c d)) : runD kr n o ds = r := by
  obtain ⟨x, h1, ⟨d, rfl, rfl⟩ | ⟨c, d, e, rfl, rfl⟩⟩ := h
  · exact run_rt h1
  · exact run_exc h1
theorem due_same (xs : List Nat) : dueD xs xs = .none := by
  have : (List.range (min xs.length xs.length)).find? (dk xs xs) = none := by
    rw [List.find?_eq_none]
    intro k _
    simp [dk]
  rw [dueD, this]
  simp
theorem int_in {a : Int} {n : Nat} (h : 0 ≤ a ∧ a < n) : ∃ k : Nat, a = k ∧ k < n := by
  obtain ⟨k, hk⟩ := Int.eq_ofNat_of_zero_le h.1
  exact ⟨k, hk, by omega⟩
theorem first_ok {s : List Sy} (w : WF s) (hz : s.length < 1000) (R : D) (a b : Int) : m_first_difference [.tuple [sy s, R], .int a, .int b] = fdR s a b := by
  refine run_of ?_
  show ∃ x, o_first_difference [some (.tuple [sy s, R]), some (.int a), some (.int b), none, none, none, none, none] = x ∧ _
  have n2 : 2 ≤ sizeLine := sz_ge (by omega)
  refine seq_ex (e := [some (.tuple [sy s, R]), some (.int a), some (.int b), some (sy s), none, none, none, none]) ?_ ?_
  · simp only [ap_var, ap_c, ap_m1, ap_m2, ap_m3, ap_part, ap_nopart, ap_if, ap_isN, ap_notN, ap_list, ap_tup, ap_nil, ap_cons, ap_cb, ap_m1m, ap_chain, ap_isi, ap_mB, ap_asB, ap_and, ap_or, ap_not, ap_yes, ap_call, ap_lc, ap_noX, ap_iseq, ap_iown, ap_seq, th_nx, th_rt, th_exc, ap_skip, ap_set, ap_asg, ap_aug, ap_lm, ap_put, ap_oif, ap_ret, ap_drop, ap_raise, ap_gN, ap_gT, ap_gsN, ap_gsC, ap_app, Res.bind_ok, Res.bind_exc, Res.of_some, exOut_ok, exOut_exc, wipeE, Option.bind_some, List.length_cons, List.length_nil, List.getElem?_cons_zero, List.getElem?_cons_succ, List.set_cons_zero, List.set_cons_succ, List.map_cons, List.map_nil, addD, subD, cmpI, negD, modD, ap_lenL, ap_lenT, intD, int1, int2, walkD, if_true, if_false, decide_eq_true_eq, Bool.false_eq_true, reduceIte, Nat.reduceAdd, Nat.reduceSub, List.replicate_succ, List.replicate_zero, List.cons_append, List.nil_append, ix0]
  refine seq_ex (e := [some (.tuple [sy s, R]), some (.int a), some (.int b), some (sy s), some (szl s), none, none, none]) ?_ ?_
  · have := sizes_ok w hz
    simp only [ap_var, ap_c, ap_m1, ap_m2, ap_m3, ap_part, ap_nopart, ap_if, ap_isN, ap_notN, ap_list, ap_tup, ap_nil, ap_cons, ap_cb, ap_m1m, ap_chain, ap_isi, ap_mB, ap_asB, ap_and, ap_or, ap_not, ap_yes, ap_call, ap_lc, ap_noX, ap_iseq, ap_iown, ap_seq, th_nx, th_rt, th_exc, ap_skip, ap_set, ap_asg, ap_aug, ap_lm, ap_put, ap_oif, ap_ret, ap_drop, ap_raise, ap_gN, ap_gT, ap_gsN, ap_gsC, ap_app, Res.bind_ok, Res.bind_exc, Res.of_some, exOut_ok, exOut_exc, wipeE, Option.bind_some, List.length_cons, List.length_nil, List.getElem?_cons_zero, List.getElem?_cons_succ, List.set_cons_zero, List.set_cons_succ, List.map_cons, List.map_nil, addD, subD, cmpI, negD, modD, ap_lenL, ap_lenT, intD, int1, int2, walkD, if_true, if_false, decide_eq_true_eq, Bool.false_eq_true, reduceIte, Nat.reduceAdd, Nat.reduceSub, List.replicate_succ, List.replicate_zero, List.cons_append, List.nil_append, this]
  have hi : ∀ {j5 j6 j7}, iSeq (mTup (aCons (mVar 1) (aCons (mVar 2) aNil))) [some (.tuple [sy s, R]), some (.int a), some (.int b), some (sy s), some (szl s), j5, j6, j7] = .ok [.int a, .int b] := by
    intro j5 j6 j7
    simp only [ap_var, ap_c, ap_m1, ap_m2, ap_m3, ap_part, ap_nopart, ap_if, ap_isN, ap_notN, ap_list, ap_tup, ap_nil, ap_cons, ap_cb, ap_m1m, ap_chain, ap_isi, ap_mB, ap_asB, ap_and, ap_or, ap_not, ap_yes, ap_call, ap_lc, ap_noX, ap_iseq, ap_iown, ap_seq, th_nx, th_rt, th_exc, ap_skip, ap_set, ap_asg, ap_aug, ap_lm, ap_put, ap_oif, ap_ret, ap_drop, ap_raise, ap_gN, ap_gT, ap_gsN, ap_gsC, ap_app, Res.bind_ok, Res.bind_exc, Res.of_some, exOut_ok, exOut_exc, wipeE, Option.bind_some, List.length_cons, List.length_nil, List.getElem?_cons_zero, List.getElem?_cons_succ, List.set_cons_zero, List.set_cons_succ, List.map_cons, List.map_nil, addD, subD, cmpI, negD, modD, ap_lenL, ap_lenT, intD, int1, int2, walkD, if_true, if_false, decide_eq_true_eq, Bool.false_eq_true, reduceIte, Nat.reduceAdd, Nat.reduceSub, List.replicate_succ, List.replicate_zero, List.cons_append, List.nil_append, n2]
  by_cases ha : 0 ≤ a ∧ a < s.length
  · by_cases hb : 0 ≤ b ∧ b < s.length
    · obtain ⟨i, rfl, hi'⟩ := int_in ha
      obtain ⟨j, rfl, hj'⟩ := int_in hb
      refine seq_ex (e := [some (.tuple [sy s, R]), some (.int i), some (.int j), some (sy s), some (szl s), some (.int j), none, none]) (for_ok hi ?_) ?_
      · simp only [ap_var, ap_c, ap_m1, ap_m2, ap_m3, ap_part, ap_nopart, ap_if, ap_isN, ap_notN, ap_list, ap_tup, ap_nil, ap_cons, ap_cb, ap_m1m, ap_chain, ap_isi, ap_mB, ap_asB, ap_and, ap_or, ap_not, ap_yes, ap_call, ap_lc, ap_noX, ap_iseq, ap_iown, ap_seq, th_nx, th_rt, th_exc, ap_skip, ap_set, ap_asg, ap_aug, ap_lm, ap_put, ap_oif, ap_ret, ap_drop, ap_raise, ap_gN, ap_gT, ap_gsN, ap_gsC, ap_app, Res.bind_ok, Res.bind_exc, Res.of_some, exOut_ok, exOut_exc, wipeE, Option.bind_some, List.length_cons, List.length_nil, List.getElem?_cons_zero, List.getElem?_cons_succ, List.set_cons_zero, List.set_cons_succ, List.map_cons, List.map_nil, addD, subD, cmpI, negD, modD, ap_lenL, ap_lenT, intD, int1, int2, walkD, if_true, if_false, decide_eq_true_eq, Bool.false_eq_true, reduceIte, Nat.reduceAdd, Nat.reduceSub, List.replicate_succ, List.replicate_zero, List.cons_append, List.nil_append, loop, check_in hi', check_in hj']
      have g1 := szl_get hi'
      have g2 := szl_get hj'
      by_cases la : 4000 < (tx s i).length
      · refine ⟨_, rfl, .inr ⟨"TooLong", .int (tx s i).length, [some (.tuple [sy s, R]), some (.int i), some (.int j), some (sy s), some (szl s), some (.int i), none, none], ?_, ?_⟩⟩
        · have la' : (4000 : Int) < ((tx s i).length : Int) := by omega
          rw [ap_seq, for_ok hi rfl]
          simp only [ap_var, ap_c, ap_m1, ap_m2, ap_m3, ap_part, ap_nopart, ap_if, ap_isN, ap_notN, ap_list, ap_tup, ap_nil, ap_cons, ap_cb, ap_m1m, ap_chain, ap_isi, ap_mB, ap_asB, ap_and, ap_or, ap_not, ap_yes, ap_call, ap_lc, ap_noX, ap_iseq, ap_iown, ap_seq, th_nx, th_rt, th_exc, ap_skip, ap_set, ap_asg, ap_aug, ap_lm, ap_put, ap_oif, ap_ret, ap_drop, ap_raise, ap_gN, ap_gT, ap_gsN, ap_gsC, ap_app, Res.bind_ok, Res.bind_exc, Res.of_some, exOut_ok, exOut_exc, wipeE, Option.bind_some, List.length_cons, List.length_nil, List.getElem?_cons_zero, List.getElem?_cons_succ, List.set_cons_zero, List.set_cons_succ, List.map_cons, List.map_nil, addD, subD, cmpI, negD, modD, ap_lenL, ap_lenT, intD, int1, int2, walkD, if_true, if_false, decide_eq_true_eq, Bool.false_eq_true, reduceIte, Nat.reduceAdd, Nat.reduceSub, List.replicate_succ, List.replicate_zero, List.cons_append, List.nil_append, loop, g1, la', decide_true]
        · rw [fdR, if_neg (not_not_intro ha), if_neg (not_not_intro hb), Int.toNat_natCast, if_pos la]
      · have la' : ¬ (4000 : Int) < ((tx s i).length : Int) := by omega
        by_cases lb : 4000 < (tx s j).length
        · refine ⟨_, rfl, .inr ⟨"TooLong", .int (tx s j).length, [some (.tuple [sy s, R]), some (.int i), some (.int j), some (sy s), some (szl s), some (.int j), none, none], ?_, ?_⟩⟩
          · have lb' : (4000 : Int) < ((tx s j).length : Int) := by omega
            rw [ap_seq, for_ok hi rfl]
            simp only [ap_var, ap_c, ap_m1, ap_m2, ap_m3, ap_part, ap_nopart, ap_if, ap_isN, ap_notN, ap_list, ap_tup, ap_nil, ap_cons, ap_cb, ap_m1m, ap_chain, ap_isi, ap_mB, ap_asB, ap_and, ap_or, ap_not, ap_yes, ap_call, ap_lc, ap_noX, ap_iseq, ap_iown, ap_seq, th_nx, th_rt, th_exc, ap_skip, ap_set, ap_asg, ap_aug, ap_lm, ap_put, ap_oif, ap_ret, ap_drop, ap_raise, ap_gN, ap_gT, ap_gsN, ap_gsC, ap_app, Res.bind_ok, Res.bind_exc, Res.of_some, exOut_ok, exOut_exc, wipeE, Option.bind_some, List.length_cons, List.length_nil, List.getElem?_cons_zero, List.getElem?_cons_succ, List.set_cons_zero, List.set_cons_succ, List.map_cons, List.map_nil, addD, subD, cmpI, negD, modD, ap_lenL, ap_lenT, intD, int1, int2, walkD, if_true, if_false, decide_eq_true_eq, Bool.false_eq_true, reduceIte, Nat.reduceAdd, Nat.reduceSub, List.replicate_succ, List.replicate_zero, List.cons_append, List.nil_append, loop, g1, g2, la', lb', decide_true, decide_false]
          · rw [fdR, if_neg (not_not_intro ha), if_neg (not_not_intro hb), Int.toNat_natCast, Int.toNat_natCast, if_neg la, if_pos lb]
        · have lb' : ¬ (4000 : Int) < ((tx s j).length : Int) := by omega
          have hr : fdR s i j = .ok (dueD (tx s i) (tx s j)) := by rw [fdR, if_neg (not_not_intro ha), if_neg (not_not_intro hb), Int.toNat_natCast, Int.toNat_natCast, if_neg la, if_neg lb]
          refine seq_ex (e := [some (.tuple [sy s, R]), some (.int i), some (.int j), some (sy s), some (szl s), some (.int j), none, none]) (for_ok hi ?_) ?_
          · simp only [ap_var, ap_c, ap_m1, ap_m2, ap_m3, ap_part, ap_nopart, ap_if, ap_isN, ap_notN, ap_list, ap_tup, ap_nil, ap_cons, ap_cb, ap_m1m, ap_chain, ap_isi, ap_mB, ap_asB, ap_and, ap_or, ap_not, ap_yes, ap_call, ap_lc, ap_noX, ap_iseq, ap_iown, ap_seq, th_nx, th_rt, th_exc, ap_skip, ap_set, ap_asg, ap_aug, ap_lm, ap_put, ap_oif, ap_ret, ap_drop, ap_raise, ap_gN, ap_gT, ap_gsN, ap_gsC, ap_app, Res.bind_ok, Res.bind_exc, Res.of_some, exOut_ok, exOut_exc, wipeE, Option.bind_some, List.length_cons, List.length_nil, List.getElem?_cons_zero, List.getElem?_cons_succ, List.set_cons_zero, List.set_cons_succ, List.map_cons, List.map_nil, addD, subD, cmpI, negD, modD, ap_lenL, ap_lenT, intD, int1, int2, walkD, if_true, if_false, decide_eq_true_eq, Bool.false_eq_true, reduceIte, Nat.reduceAdd, Nat.reduceSub, List.replicate_succ, List.replicate_zero, List.cons_append, List.nil_append, loop, g1, g2, la', lb', decide_false]
          by_cases hij : i = j
          · subst hij
            refine ⟨_, rfl, .inl ⟨.none, ?_, by rw [hr, due_same]⟩⟩
            have h : eqD (.int (i : Int)) (.int (i : Int)) = some (.bool true) := by simp [eqD, eqB]
            simp only [ap_var, ap_c, ap_m1, ap_m2, ap_m3, ap_part, ap_nopart, ap_if, ap_isN, ap_notN, ap_list, ap_tup, ap_nil, ap_cons, ap_cb, ap_m1m, ap_chain, ap_isi, ap_mB, ap_asB, ap_and, ap_or, ap_not, ap_yes, ap_call, ap_lc, ap_noX, ap_iseq, ap_iown, ap_seq, th_nx, th_rt, th_exc, ap_skip, ap_set, ap_asg, ap_aug, ap_lm, ap_put, ap_oif, ap_ret, ap_drop, ap_raise, ap_gN, ap_gT, ap_gsN, ap_gsC, ap_app, Res.bind_ok, Res.bind_exc, Res.of_some, exOut_ok, exOut_exc, wipeE, Option.bind_some, List.length_cons, List.length_nil, List.getElem?_cons_zero, List.getElem?_cons_succ, List.set_cons_zero, List.set_cons_succ, List.map_cons, List.map_nil, addD, subD, cmpI, negD, modD, ap_lenL, ap_lenT, intD, int1, int2, walkD, if_true, if_false, decide_eq_true_eq, Bool.false_eq_true, reduceIte, Nat.reduceAdd, Nat.reduceSub, List.replicate_succ, List.replicate_zero, List.cons_append, List.nil_append, h]
          · have h : eqD (.int (i : Int)) (.int (j : Int)) = some (.bool false) := by
              have hij' : ¬ (i : Int) = (j : Int) := by omega
              simp only [eqD, eqB, Option.map_some, decide_eq_false hij']
            refine seq_ex (e := [some (.tuple [sy s, R]), some (.int i), some (.int j), some (sy s), some (szl s), some (.int j), none, none]) ?_ ?_
            · simp only [ap_var, ap_c, ap_m1, ap_m2, ap_m3, ap_part, ap_nopart, ap_if, ap_isN, ap_notN, ap_list, ap_tup, ap_nil, ap_cons, ap_cb, ap_m1m, ap_chain, ap_isi, ap_mB, ap_asB, ap_and, ap_or, ap_not, ap_yes, ap_call, ap_lc, ap_noX, ap_iseq, ap_iown, ap_seq, th_nx, th_rt, th_exc, ap_skip, ap_set, ap_asg, ap_aug, ap_lm, ap_put, ap_oif, ap_ret, ap_drop, ap_raise, ap_gN, ap_gT, ap_gsN, ap_gsC, ap_app, Res.bind_ok, Res.bind_exc, Res.of_some, exOut_ok, exOut_exc, wipeE, Option.bind_some, List.length_cons, List.length_nil, List.getElem?_cons_zero, List.getElem?_cons_succ, List.set_cons_zero, List.set_cons_succ, List.map_cons, List.map_nil, addD, subD, cmpI, negD, modD, ap_lenL, ap_lenT, intD, int1, int2, walkD, if_true, if_false, decide_eq_true_eq, Bool.false_eq_true, reduceIte, Nat.reduceAdd, Nat.reduceSub, List.replicate_succ, List.replicate_zero, List.cons_append, List.nil_append, h]
            refine seq_ex (e := [some (.tuple [sy s, R]), some (.int i), some (.int j), some (sy s), some (szl s), some (.int j), some (.str (txS (tx s i))), none]) ?_ ?_
            · simp only [ap_var, ap_c, ap_m1, ap_m2, ap_m3, ap_part, ap_nopart, ap_if, ap_isN, ap_notN, ap_list, ap_tup, ap_nil, ap_cons, ap_cb, ap_m1m, ap_chain, ap_isi, ap_mB, ap_asB, ap_and, ap_or, ap_not, ap_yes, ap_call, ap_lc, ap_noX, ap_iseq, ap_iown, ap_seq, th_nx, th_rt, th_exc, ap_skip, ap_set, ap_asg, ap_aug, ap_lm, ap_put, ap_oif, ap_ret, ap_drop, ap_raise, ap_gN, ap_gT, ap_gsN, ap_gsC, ap_app, Res.bind_ok, Res.bind_exc, Res.of_some, exOut_ok, exOut_exc, wipeE, Option.bind_some, List.length_cons, List.length_nil, List.getElem?_cons_zero, List.getElem?_cons_succ, List.set_cons_zero, List.set_cons_succ, List.map_cons, List.map_nil, addD, subD, cmpI, negD, modD, ap_lenL, ap_lenT, intD, int1, int2, walkD, if_true, if_false, decide_eq_true_eq, Bool.false_eq_true, reduceIte, Nat.reduceAdd, Nat.reduceSub, List.replicate_succ, List.replicate_zero, List.cons_append, List.nil_append, g1, letters_ok w hz hi' (by omega)]
            refine seq_ex (e := [some (.tuple [sy s, R]), some (.int i), some (.int j), some (sy s), some (szl s), some (.int j), some (.str (txS (tx s i))), some (.str (txS (tx s j)))]) ?_ ?_
            · simp only [ap_var, ap_c, ap_m1, ap_m2, ap_m3, ap_part, ap_nopart, ap_if, ap_isN, ap_notN, ap_list, ap_tup, ap_nil, ap_cons, ap_cb, ap_m1m, ap_chain, ap_isi, ap_mB, ap_asB, ap_and, ap_or, ap_not, ap_yes, ap_call, ap_lc, ap_noX, ap_iseq, ap_iown, ap_seq, th_nx, th_rt, th_exc, ap_skip, ap_set, ap_asg, ap_aug, ap_lm, ap_put, ap_oif, ap_ret, ap_drop, ap_raise, ap_gN, ap_gT, ap_gsN, ap_gsC, ap_app, Res.bind_ok, Res.bind_exc, Res.of_some, exOut_ok, exOut_exc, wipeE, Option.bind_some, List.length_cons, List.length_nil, List.getElem?_cons_zero, List.getElem?_cons_succ, List.set_cons_zero, List.set_cons_succ, List.map_cons, List.map_nil, addD, subD, cmpI, negD, modD, ap_lenL, ap_lenT, intD, int1, int2, walkD, if_true, if_false, decide_eq_true_eq, Bool.false_eq_true, reduceIte, Nat.reduceAdd, Nat.reduceSub, List.replicate_succ, List.replicate_zero, List.cons_append, List.nil_append, g2, letters_ok w hz hj' (by omega)]
            have zx : (tx s i).length ≤ sizeLine := sz_ge (by omega)
            have zy : (tx s j).length ≤ sizeLine := sz_ge (by omega)
            refine ⟨_, rfl, .inl ⟨_, ?_, hr⟩⟩
            have hmi : iRange (aCons (mCB minD (aCons (mCB lenD (aCons (mVar 6) aNil)) (aCons (mCB lenD (aCons (mVar 7) aNil)) aNil))) aNil) [some (.tuple [sy s, R]), some (.int i), some (.int j), some (sy s), some (szl s), some (.int j), some (.str (txS (tx s i))), some (.str (txS (tx s j)))] = .ok (rng 0 (min (tx s i).length (tx s j).length)) := by
              refine irange_ok (l := [.int (min (tx s i).length (tx s j).length : Nat)]) ?_ ?_
              · simp only [ap_var, ap_c, ap_m1, ap_m2, ap_m3, ap_part, ap_nopart, ap_if, ap_isN, ap_notN, ap_list, ap_tup, ap_nil, ap_cons, ap_cb, ap_m1m, ap_chain, ap_isi, ap_mB, ap_asB, ap_and, ap_or, ap_not, ap_yes, ap_call, ap_lc, ap_noX, ap_iseq, ap_iown, ap_seq, th_nx, th_rt, th_exc, ap_skip, ap_set, ap_asg, ap_aug, ap_lm, ap_put, ap_oif, ap_ret, ap_drop, ap_raise, ap_gN, ap_gT, ap_gsN, ap_gsC, ap_app, Res.bind_ok, Res.bind_exc, Res.of_some, exOut_ok, exOut_exc, wipeE, Option.bind_some, List.length_cons, List.length_nil, List.getElem?_cons_zero, List.getElem?_cons_succ, List.set_cons_zero, List.set_cons_succ, List.map_cons, List.map_nil, addD, subD, cmpI, negD, modD, ap_lenL, ap_lenT, intD, int1, int2, walkD, if_true, if_false, decide_eq_true_eq, Bool.false_eq_true, reduceIte, Nat.reduceAdd, Nat.reduceSub, List.replicate_succ, List.replicate_zero, List.cons_append, List.nil_append, ap_lenS zx, ap_lenS zy, min_nat]
              exact range1 (Nat.lt_of_le_of_lt (Nat.le_trans (Nat.min_le_left _ _) (show _ ≤ 4000 by omega)) (by decide))
            have fin : ∀ j5, oRet (mIf (mB (m2 eqD (mCB lenD (aCons (mVar 6) aNil)) (mCB lenD (aCons (mVar 7) aNil)))) (mC .none) (mCB minD (aCons (mCB lenD (aCons (mVar 6) aNil)) (aCons (mCB lenD (aCons (mVar 7) aNil)) aNil)))) [some (.tuple [sy s, R]), some (.int i), some (.int j), some (sy s), some (szl s), j5, some (.str (txS (tx s i))), some (.str (txS (tx s j)))] = .rt (if (tx s i).length = (tx s j).length then .none else .int (min (tx s i).length (tx s j).length : Nat)) := by
              intro j5
              by_cases hh : (tx s i).length = (tx s j).length
              · have h' : eqD (.int ((tx s i).length : Int)) (.int ((tx s j).length : Int)) = some (.bool true) := by simp [eqD, eqB, hh]
                simp only [ap_var, ap_c, ap_m1, ap_m2, ap_m3, ap_part, ap_nopart, ap_if, ap_isN, ap_notN, ap_list, ap_tup, ap_nil, ap_cons, ap_cb, ap_m1m, ap_chain, ap_isi, ap_mB, ap_asB, ap_and, ap_or, ap_not, ap_yes, ap_call, ap_lc, ap_noX, ap_iseq, ap_iown, ap_seq, th_nx, th_rt, th_exc, ap_skip, ap_set, ap_asg, ap_aug, ap_lm, ap_put, ap_oif, ap_ret, ap_drop, ap_raise, ap_gN, ap_gT, ap_gsN, ap_gsC, ap_app, Res.bind_ok, Res.bind_exc, Res.of_some, exOut_ok, exOut_exc, wipeE, Option.bind_some, List.length_cons, List.length_nil, List.getElem?_cons_zero, List.getElem?_cons_succ, List.set_cons_zero, List.set_cons_succ, List.map_cons, List.map_nil, addD, subD, cmpI, negD, modD, ap_lenL, ap_lenT, intD, int1, int2, walkD, if_true, if_false, decide_eq_true_eq, Bool.false_eq_true, reduceIte, Nat.reduceAdd, Nat.reduceSub, List.replicate_succ, List.replicate_zero, List.cons_append, List.nil_append, ap_lenS zx, ap_lenS zy, h']
                rw [if_pos hh]
              · have h' : eqD (.int ((tx s i).length : Int)) (.int ((tx s j).length : Int)) = some (.bool false) := by
                  have : ¬ ((tx s i).length : Int) = ((tx s j).length : Int) := by omega
                  simp only [eqD, eqB, Option.map_some, decide_eq_false this]
                simp only [ap_var, ap_c, ap_m1, ap_m2, ap_m3, ap_part, ap_nopart, ap_if, ap_isN, ap_notN, ap_list, ap_tup, ap_nil, ap_cons, ap_cb, ap_m1m, ap_chain, ap_isi, ap_mB, ap_asB, ap_and, ap_or, ap_not, ap_yes, ap_call, ap_lc, ap_noX, ap_iseq, ap_iown, ap_seq, th_nx, th_rt, th_exc, ap_skip, ap_set, ap_asg, ap_aug, ap_lm, ap_put, ap_oif, ap_ret, ap_drop, ap_raise, ap_gN, ap_gT, ap_gsN, ap_gsC, ap_app, Res.bind_ok, Res.bind_exc, Res.of_some, exOut_ok, exOut_exc, wipeE, Option.bind_some, List.length_cons, List.length_nil, List.getElem?_cons_zero, List.getElem?_cons_succ, List.set_cons_zero, List.set_cons_succ, List.map_cons, List.map_nil, addD, subD, cmpI, negD, modD, ap_lenL, ap_lenT, intD, int1, int2, walkD, if_true, if_false, decide_eq_true_eq, Bool.false_eq_true, reduceIte, Nat.reduceAdd, Nat.reduceSub, List.replicate_succ, List.replicate_zero, List.cons_append, List.nil_append, ap_lenS zx, ap_lenS zy, h', min_nat]
                rw [if_neg hh]
            rcases seq_find (o2 := oRet (mIf (mB (m2 eqD (mCB lenD (aCons (mVar 6) aNil)) (mCB lenD (aCons (mVar 7) aNil)))) (mC .none) (mCB minD (aCons (mCB lenD (aCons (mVar 6) aNil)) (aCons (mCB lenD (aCons (mVar 7) aNil)) aNil))))) (o := (oSeq (oIf (mB (m2 neD (m2 ixD (mVar 6) (mVar 5)) (m2 ixD (mVar 7) (mVar 5)))) (oRet (mVar 5)) oSkip) oSkip)) (v := 5) (dk (tx s i) (tx s j)) (fun k => .int k) hmi (fun k hk => by
                have ha : (tx s i)[k]? = some (tx s i)[k] := List.getElem?_eq_getElem (by omega)
                have hb : (tx s j)[k]? = some (tx s j)[k] := List.getElem?_eq_getElem (by omega)
                simp only [ap_var, ap_c, ap_m1, ap_m2, ap_m3, ap_part, ap_nopart, ap_if, ap_isN, ap_notN, ap_list, ap_tup, ap_nil, ap_cons, ap_cb, ap_m1m, ap_chain, ap_isi, ap_mB, ap_asB, ap_and, ap_or, ap_not, ap_yes, ap_call, ap_lc, ap_noX, ap_iseq, ap_iown, ap_seq, th_nx, th_rt, th_exc, ap_skip, ap_set, ap_asg, ap_aug, ap_lm, ap_put, ap_oif, ap_ret, ap_drop, ap_raise, ap_gN, ap_gT, ap_gsN, ap_gsC, ap_app, Res.bind_ok, Res.bind_exc, Res.of_some, exOut_ok, exOut_exc, wipeE, Option.bind_some, List.length_cons, List.length_nil, List.getElem?_cons_zero, List.getElem?_cons_succ, List.set_cons_zero, List.set_cons_succ, List.map_cons, List.map_nil, addD, subD, cmpI, negD, modD, ap_lenL, ap_lenT, intD, int1, int2, walkD, if_true, if_false, decide_eq_true_eq, Bool.false_eq_true, reduceIte, Nat.reduceAdd, Nat.reduceSub, List.replicate_succ, List.replicate_zero, List.cons_append, List.nil_append, ix_str zx ha, ix_str zy hb, ne_at ha hb]
                cases dk (tx s i) (tx s j) k <;> rfl) with ⟨k, h1, h2⟩ | ⟨h1, e, he, h2⟩
            · rw [h2, dueD, h1]
            · rw [h2, dueD, h1]
              rcases he with rfl | ⟨j, rfl⟩
              · exact fin _
              · exact fin _
    · obtain ⟨i, rfl, hi'⟩ := int_in ha
      refine ⟨_, rfl, .inr ⟨"OutOfRange", .int b, [some (.tuple [sy s, R]), some (.int i), some (.int b), some (sy s), some (szl s), some (.int b), none, none], ?_, ?_⟩⟩
      · rw [ap_seq, for_ok hi rfl]
        simp only [ap_var, ap_c, ap_m1, ap_m2, ap_m3, ap_part, ap_nopart, ap_if, ap_isN, ap_notN, ap_list, ap_tup, ap_nil, ap_cons, ap_cb, ap_m1m, ap_chain, ap_isi, ap_mB, ap_asB, ap_and, ap_or, ap_not, ap_yes, ap_call, ap_lc, ap_noX, ap_iseq, ap_iown, ap_seq, th_nx, th_rt, th_exc, ap_skip, ap_set, ap_asg, ap_aug, ap_lm, ap_put, ap_oif, ap_ret, ap_drop, ap_raise, ap_gN, ap_gT, ap_gsN, ap_gsC, ap_app, Res.bind_ok, Res.bind_exc, Res.of_some, exOut_ok, exOut_exc, wipeE, Option.bind_some, List.length_cons, List.length_nil, List.getElem?_cons_zero, List.getElem?_cons_succ, List.set_cons_zero, List.set_cons_succ, List.map_cons, List.map_nil, addD, subD, cmpI, negD, modD, ap_lenL, ap_lenT, intD, int1, int2, walkD, if_true, if_false, decide_eq_true_eq, Bool.false_eq_true, reduceIte, Nat.reduceAdd, Nat.reduceSub, List.replicate_succ, List.replicate_zero, List.cons_append, List.nil_append, loop, check_in hi', check_out hb]
      · rw [fdR, if_neg (not_not_intro ha), if_pos hb]
  · refine ⟨_, rfl, .inr ⟨"OutOfRange", .int a, [some (.tuple [sy s, R]), some (.int a), some (.int b), some (sy s), some (szl s), some (.int a), none, none], ?_, ?_⟩⟩
    · rw [ap_seq, for_ok hi rfl]
      simp only [ap_var, ap_c, ap_m1, ap_m2, ap_m3, ap_part, ap_nopart, ap_if, ap_isN, ap_notN, ap_list, ap_tup, ap_nil, ap_cons, ap_cb, ap_m1m, ap_chain, ap_isi, ap_mB, ap_asB, ap_and, ap_or, ap_not, ap_yes, ap_call, ap_lc, ap_noX, ap_iseq, ap_iown, ap_seq, th_nx, th_rt, th_exc, ap_skip, ap_set, ap_asg, ap_aug, ap_lm, ap_put, ap_oif, ap_ret, ap_drop, ap_raise, ap_gN, ap_gT, ap_gsN, ap_gsC, ap_app, Res.bind_ok, Res.bind_exc, Res.of_some, exOut_ok, exOut_exc, wipeE, Option.bind_some, List.length_cons, List.length_nil, List.getElem?_cons_zero, List.getElem?_cons_succ, List.set_cons_zero, List.set_cons_succ, List.map_cons, List.map_nil, addD, subD, cmpI, negD, modD, ap_lenL, ap_lenT, intD, int1, int2, walkD, if_true, if_false, decide_eq_true_eq, Bool.false_eq_true, reduceIte, Nat.reduceAdd, Nat.reduceSub, List.replicate_succ, List.replicate_zero, List.cons_append, List.nil_append, loop, check_out ha]
    · rw [fdR, if_pos ha]
/-- the difference as it is told -/
def toldD (s : List Sy) (a b : Int) : D := match fdR s a b with
  | .ok d => d
  | .exc c d => if c = "OutOfRange" then .tuple [.str "range", d] else .tuple [.str "long", d]
  | .err => .none
theorem told_ok {s : List Sy} (w : WF s) (hz : s.length < 1000) (R : D) (a b : Int) : m__law_told [.tuple [sy s, R], .int a, .int b] = .ok (toldD s a b) := by
  refine run_rt ?_
  show o__law_told [some (.tuple [sy s, R]), some (.int a), some (.int b), none] = _
  have n2 : 2 ≤ sizeLine := sz_ge (by omega)
  have hf := first_ok w hz R a b
  unfold o__law_told oTry
  simp only [ap_var, ap_c, ap_m1, ap_m2, ap_m3, ap_part, ap_nopart, ap_if, ap_isN, ap_notN, ap_list, ap_tup, ap_nil, ap_cons, ap_cb, ap_m1m, ap_chain, ap_isi, ap_mB, ap_asB, ap_and, ap_or, ap_not, ap_yes, ap_call, ap_lc, ap_noX, ap_iseq, ap_iown, ap_seq, th_nx, th_rt, th_exc, ap_skip, ap_set, ap_asg, ap_aug, ap_lm, ap_put, ap_oif, ap_ret, ap_drop, ap_raise, ap_gN, ap_gT, ap_gsN, ap_gsC, ap_app, Res.bind_ok, Res.bind_exc, Res.of_some, exOut_ok, exOut_exc, wipeE, Option.bind_some, List.length_cons, List.length_nil, List.getElem?_cons_zero, List.getElem?_cons_succ, List.set_cons_zero, List.set_cons_succ, List.map_cons, List.map_nil, addD, subD, cmpI, negD, modD, ap_lenL, ap_lenT, intD, int1, int2, walkD, if_true, if_false, decide_eq_true_eq, Bool.false_eq_true, reduceIte, Nat.reduceAdd, Nat.reduceSub, List.replicate_succ, List.replicate_zero, List.cons_append, List.nil_append, hf]
  have key : fdR s a b = .exc "OutOfRange" (.int a) ∨ fdR s a b = .exc "OutOfRange" (.int b) ∨ (∃ n, fdR s a b = .exc "TooLong" n) ∨ ∃ d, fdR s a b = .ok d := by
    unfold fdR
    split
    · exact .inl rfl
    · split
      · exact .inr (.inl rfl)
      · split
        · exact .inr (.inr (.inl ⟨_, rfl⟩))
        · split
          · exact .inr (.inr (.inl ⟨_, rfl⟩))
          · exact .inr (.inr (.inr ⟨_, rfl⟩))
  have e1 : addD (.str ("range" : String)) (.str ("" : String)) = some (.str ("range" : String)) := by
    refine (add_str (sz_ge (by decide +kernel))).trans ?_
    exact congrArg (fun x => some (PyData.str x)) (by decide +kernel)
  have e2 : addD (.str ("" : String)) (.str ("long" : String)) = some (.str ("long" : String)) := by
    refine (add_str (sz_ge (by decide +kernel))).trans ?_
    exact congrArg (fun x => some (PyData.str x)) (by decide +kernel)
  have o1 : isub_OutOfRange "OutOfRange" = true := by decide +kernel
  have o2 : isub_OutOfRange "TooLong" = false := by decide +kernel
  have o3 : isub_TooLong "OutOfRange" = false := by decide +kernel
  have o4 : isub_TooLong "TooLong" = true := by decide +kernel
  have k1 : h_HouseError "OutOfRange" = some true := by decide +kernel
  have k2 : h_HouseError "TooLong" = some true := by decide +kernel
  have x0 : ∀ {a b : D}, ixD (.list [a, b]) (.int 0) = some a := ix_nat (n := 0) rfl
  have x1 : ∀ {a b : D}, ixD (.list [a, b]) (.int 1) = some b := ix_nat (n := 1) rfl
  have ne : ¬ (("TooLong" : String) : Str) = ("OutOfRange" : String) := by decide +kernel
  rcases key with h | h | ⟨n, h⟩ | ⟨d, h⟩
  · rw [toldD, h]
    simp only [ap_var, ap_c, ap_m1, ap_m2, ap_m3, ap_part, ap_nopart, ap_if, ap_isN, ap_notN, ap_list, ap_tup, ap_nil, ap_cons, ap_cb, ap_m1m, ap_chain, ap_isi, ap_mB, ap_asB, ap_and, ap_or, ap_not, ap_yes, ap_call, ap_lc, ap_noX, ap_iseq, ap_iown, ap_seq, th_nx, th_rt, th_exc, ap_skip, ap_set, ap_asg, ap_aug, ap_lm, ap_put, ap_oif, ap_ret, ap_drop, ap_raise, ap_gN, ap_gT, ap_gsN, ap_gsC, ap_app, Res.bind_ok, Res.bind_exc, Res.of_some, exOut_ok, exOut_exc, wipeE, Option.bind_some, List.length_cons, List.length_nil, List.getElem?_cons_zero, List.getElem?_cons_succ, List.set_cons_zero, List.set_cons_succ, List.map_cons, List.map_nil, addD, subD, cmpI, negD, modD, ap_lenL, ap_lenT, intD, int1, int2, walkD, if_true, if_false, decide_eq_true_eq, Bool.false_eq_true, reduceIte, Nat.reduceAdd, Nat.reduceSub, List.replicate_succ, List.replicate_zero, List.cons_append, List.nil_append, k1, suOut, Nat.zero_lt_succ, n2, o1, o3, x0, x1, e1]
    rfl
  · rw [toldD, h]
    simp only [ap_var, ap_c, ap_m1, ap_m2, ap_m3, ap_part, ap_nopart, ap_if, ap_isN, ap_notN, ap_list, ap_tup, ap_nil, ap_cons, ap_cb, ap_m1m, ap_chain, ap_isi, ap_mB, ap_asB, ap_and, ap_or, ap_not, ap_yes, ap_call, ap_lc, ap_noX, ap_iseq, ap_iown, ap_seq, th_nx, th_rt, th_exc, ap_skip, ap_set, ap_asg, ap_aug, ap_lm, ap_put, ap_oif, ap_ret, ap_drop, ap_raise, ap_gN, ap_gT, ap_gsN, ap_gsC, ap_app, Res.bind_ok, Res.bind_exc, Res.of_some, exOut_ok, exOut_exc, wipeE, Option.bind_some, List.length_cons, List.length_nil, List.getElem?_cons_zero, List.getElem?_cons_succ, List.set_cons_zero, List.set_cons_succ, List.map_cons, List.map_nil, addD, subD, cmpI, negD, modD, ap_lenL, ap_lenT, intD, int1, int2, walkD, if_true, if_false, decide_eq_true_eq, Bool.false_eq_true, reduceIte, Nat.reduceAdd, Nat.reduceSub, List.replicate_succ, List.replicate_zero, List.cons_append, List.nil_append, k1, suOut, Nat.zero_lt_succ, n2, o1, o3, x0, x1, e1]
    rfl
  · rw [toldD, h]
    simp only [ap_var, ap_c, ap_m1, ap_m2, ap_m3, ap_part, ap_nopart, ap_if, ap_isN, ap_notN, ap_list, ap_tup, ap_nil, ap_cons, ap_cb, ap_m1m, ap_chain, ap_isi, ap_mB, ap_asB, ap_and, ap_or, ap_not, ap_yes, ap_call, ap_lc, ap_noX, ap_iseq, ap_iown, ap_seq, th_nx, th_rt, th_exc, ap_skip, ap_set, ap_asg, ap_aug, ap_lm, ap_put, ap_oif, ap_ret, ap_drop, ap_raise, ap_gN, ap_gT, ap_gsN, ap_gsC, ap_app, Res.bind_ok, Res.bind_exc, Res.of_some, exOut_ok, exOut_exc, wipeE, Option.bind_some, List.length_cons, List.length_nil, List.getElem?_cons_zero, List.getElem?_cons_succ, List.set_cons_zero, List.set_cons_succ, List.map_cons, List.map_nil, addD, subD, cmpI, negD, modD, ap_lenL, ap_lenT, intD, int1, int2, walkD, if_true, if_false, decide_eq_true_eq, Bool.false_eq_true, reduceIte, Nat.reduceAdd, Nat.reduceSub, List.replicate_succ, List.replicate_zero, List.cons_append, List.nil_append, k2, suOut, Nat.zero_lt_succ, n2, o2, o4, x0, x1, e2, ne]
    rfl
  · rw [toldD, h]
    simp only [ap_var, ap_c, ap_m1, ap_m2, ap_m3, ap_part, ap_nopart, ap_if, ap_isN, ap_notN, ap_list, ap_tup, ap_nil, ap_cons, ap_cb, ap_m1m, ap_chain, ap_isi, ap_mB, ap_asB, ap_and, ap_or, ap_not, ap_yes, ap_call, ap_lc, ap_noX, ap_iseq, ap_iown, ap_seq, th_nx, th_rt, th_exc, ap_skip, ap_set, ap_asg, ap_aug, ap_lm, ap_put, ap_oif, ap_ret, ap_drop, ap_raise, ap_gN, ap_gT, ap_gsN, ap_gsC, ap_app, Res.bind_ok, Res.bind_exc, Res.of_some, exOut_ok, exOut_exc, wipeE, Option.bind_some, List.length_cons, List.length_nil, List.getElem?_cons_zero, List.getElem?_cons_succ, List.set_cons_zero, List.set_cons_succ, List.map_cons, List.map_nil, addD, subD, cmpI, negD, modD, ap_lenL, ap_lenT, intD, int1, int2, walkD, if_true, if_false, decide_eq_true_eq, Bool.false_eq_true, reduceIte, Nat.reduceAdd, Nat.reduceSub, List.replicate_succ, List.replicate_zero, List.cons_append, List.nil_append]
end K70

namespace K70
open PySem PySem.Spec L2 DL
theorem sm_L {c : Nat} (h : c < 128) : Sm 60 1 (Sy.L c).d := by
  have : ∀ d ∈ [PyData.str ("letter" : String), PyData.str (txS [c])], Sm 6 0 d := by
    intro d hd
    simp at hd
    rcases hd with rfl | rfl
    · exact (Sm.str (x := ("letter" : String)) (by decide +kernel)).mono (by decide +kernel) (by omega)
    · exact (Sm.str (strOk_low (by simpa using h))).mono (by rw [txS_length]; simp) (by omega)
  exact (Sm.tuple this).mono (by simp) (by omega)
theorem sm_P {i j : Nat} (hi : i < 1000) (hj : j < 1000) : Sm 200 1 (Sy.P i j).d := by
  have : ∀ d ∈ [PyData.str ("pair" : String), PyData.int i, PyData.int j], Sm 64 0 d := by
    intro d hd
    simp at hd
    rcases hd with rfl | rfl | rfl
    · exact (Sm.str (x := ("pair" : String)) (by decide +kernel)).mono (show ("pair" : Str).length ≤ 64 by decide +kernel) (by omega)
    · exact Sm.int (by omega)
    · exact Sm.int (by omega)
  exact (Sm.tuple this).mono (by simp) (by omega)
theorem sm_sy {s : List Sy} (w : WF s) (hz : s.length < 1000) : Sm (201 * s.length) 2 (sy s) := by
  have : ∀ d ∈ s.map Sy.d, Sm 200 1 d := by
    intro d hd
    obtain ⟨x, hx, rfl⟩ := List.mem_map.mp hd
    cases x with
    | L c => exact (sm_L (w.let' c hx)).mono (by omega) (by omega)
    | P i j =>
      obtain ⟨k, hk⟩ := List.getElem?_of_mem hx
      have := w.pair k i j hk
      have := lt_of_get hk
      exact sm_P (by omega) (by omega)
  exact (Sm.list this).mono (by simp) (by omega)
theorem notIn_ok {s : List Sy} (w : WF s) (hz : s.length < 1000) {i j : Nat} (hi : i < s.length) (hj : j < s.length) : ∃ t, notInD (.tuple [.str ("pair" : String), .int i, .int j]) (sy s) = some (.bool t) := by
  have h1 := (sm_P (i := i) (j := j) (by omega) (by omega)).shaped (by omega)
  have h2 := (sm_sy w hz).shaped (by omega)
  rw [Sy.d] at h1
  refine ⟨!((s.map Sy.d).any fun z => PyData.eqv z (.tuple [.str ("pair" : String), .int i, .int j])), ?_⟩
  simp only [notInD, inB, h1, h2, Bool.and_self, if_true, Option.map_some]
theorem pick3 {a b c l : Int} {n : Nat} (hl : 0 ≤ l ∧ l < 3) (ha : 0 ≤ a ∧ a < n) (hb : 0 ≤ b ∧ b < n) (hc : 0 ≤ c ∧ c < n) : ∃ i : Nat, i < n ∧ ixD (.list [.int a, .int b, .int c]) (.int l) = some (.int i) := by
  obtain ⟨k, rfl, hk⟩ := int_in (n := 3) hl
  obtain ⟨a, rfl, ha2⟩ := int_in ha
  obtain ⟨b, rfl, hb2⟩ := int_in hb
  obtain ⟨c, rfl, hc2⟩ := int_in hc
  match k, hk with
  | 0, _ => exact ⟨a, ha2, ix_nat rfl⟩
  | 1, _ => exact ⟨b, hb2, ix_nat rfl⟩
  | 2, _ => exact ⟨c, hc2, ix_nat rfl⟩
theorem letters4 {v : Int} : ∃ cs : List Nat, ixD (.list [.str ("ab" : String), .str ("abc" : String), .str ("a" : String), .str ("x ~" : String)]) (.int (v % 4)) = some (.str (txS cs)) ∧ 0 < cs.length ∧ cs.length ≤ 4 ∧ ∀ c ∈ cs, c < 128 := by
  obtain ⟨k, hk, hk4⟩ := mod_nat v (n := 4) (by omega)
  rw [show ((4 : Nat) : Int) = 4 from rfl] at hk
  rw [hk]
  have e1 : (("ab" : String) : Str) = txS [97, 98] := by decide +kernel
  have e2 : (("abc" : String) : Str) = txS [97, 98, 99] := by decide +kernel
  have e3 : (("a" : String) : Str) = txS [97] := by decide +kernel
  have e4 : (("x ~" : String) : Str) = txS [120, 32, 126] := by decide +kernel
  rw [e1, e2, e3, e4]
  match k, hk4 with
  | 0, _ => exact ⟨_, ix_nat rfl, by decide, by decide, by decide⟩
  | 1, _ => exact ⟨_, ix_nat rfl, by decide, by decide, by decide⟩
  | 2, _ => exact ⟨_, ix_nat rfl, by decide, by decide, by decide⟩
  | 3, _ => exact ⟨_, ix_nat rfl, by decide, by decide, by decide⟩
theorem tx_list (cs : List Nat) : (txS cs).cps.toList = cs := by simp [txS]
theorem walk_tx (cs : List Nat) : walkD (.str (txS cs)) = .ok (cs.map fun c => .str (txS [c])) := by simp [walkD, txS]
theorem mod_in {a b : Int} (h : 0 < b) : 0 ≤ a % b ∧ a % b < b := ⟨Int.emod_nonneg a (by omega), Int.emod_lt_of_pos a h⟩
theorem symbols_ok {xs : List Int} (hx : 0 < xs.length) {at' most : Int} (hm : 0 ≤ most ∧ most ≤ 40) : ∃ s, m__law_symbols [li xs, .int at', .int most] = .ok (sy s) ∧ WF s ∧ 0 < s.length ∧ s.length ≤ 44 := by
  suffices H : ∃ x, o__law_symbols [some (li xs), some (.int at'), some (.int most), none, none, none, none, none, none, none] = x ∧ ∃ s, x = .rt (sy s) ∧ WF s ∧ 0 < s.length ∧ s.length ≤ 44 by
    obtain ⟨x, h0, s, h1, h2⟩ := H
    exact ⟨s, run_rt (h0.trans h1), h2⟩
  obtain ⟨v, _, hv⟩ := drawn_ok (a := at') hx
  obtain ⟨cs, e1, c1, c2, c3⟩ := letters4 (v := v)
  have w0 : ∀ cs : List Nat, (∀ c ∈ cs, c < 128) → WF (cs.map Sy.L) := by
    intro cs h
    constructor
    · intro k i j e
      obtain ⟨x, _, h2⟩ := map_get e
      cases h2
    · intro c e
      obtain ⟨z, h1, h2⟩ := List.mem_map.mp e
      injection h2 with h3
      subst h3
      exact h _ h1
  have z4 : 4 ≤ sizeLine := sz_ge (by omega)
  have z2 : 2 ≤ sizeLine := sz_ge (by omega)
  have z3 : 3 ≤ sizeLine := sz_ge (by omega)
  refine seq_ex (e := [some (li xs), some (.int at'), some (.int most), some (sy (cs.map Sy.L)), none, none, none, none, none, none]) ?_ ?_
  · simp only [ap_var, ap_c, ap_m1, ap_m2, ap_m3, ap_part, ap_nopart, ap_if, ap_isN, ap_notN, ap_list, ap_tup, ap_nil, ap_cons, ap_cb, ap_m1m, ap_chain, ap_isi, ap_mB, ap_asB, ap_and, ap_or, ap_not, ap_yes, ap_call, ap_lc, ap_noX, ap_iseq, ap_iown, ap_seq, th_nx, th_rt, th_exc, ap_skip, ap_set, ap_asg, ap_aug, ap_lm, ap_put, ap_oif, ap_ret, ap_drop, ap_raise, ap_gN, ap_gT, ap_gsN, ap_gsC, ap_app, Res.bind_ok, Res.bind_exc, Res.of_some, exOut_ok, exOut_exc, wipeE, Option.bind_some, List.length_cons, List.length_nil, List.getElem?_cons_zero, List.getElem?_cons_succ, List.set_cons_zero, List.set_cons_succ, List.map_cons, List.map_nil, addD, subD, cmpI, negD, modD, ap_lenL, ap_lenT, intD, int1, int2, walkD, if_true, if_false, decide_eq_true_eq, Bool.false_eq_true, reduceIte, Nat.reduceAdd, Nat.reduceSub, List.replicate_succ, List.replicate_zero, List.cons_append, List.nil_append, z4, hv, show (0 : Int) < 4 by decide, e1, tx_list]
    rw [lc_all (fun d => .tuple [.str ("letter" : String), d]) (by
      intro d hd
      simp only [ap_var, ap_c, ap_m1, ap_m2, ap_m3, ap_part, ap_nopart, ap_if, ap_isN, ap_notN, ap_list, ap_tup, ap_nil, ap_cons, ap_cb, ap_m1m, ap_chain, ap_isi, ap_mB, ap_asB, ap_and, ap_or, ap_not, ap_yes, ap_call, ap_lc, ap_noX, ap_iseq, ap_iown, ap_seq, th_nx, th_rt, th_exc, ap_skip, ap_set, ap_asg, ap_aug, ap_lm, ap_put, ap_oif, ap_ret, ap_drop, ap_raise, ap_gN, ap_gT, ap_gsN, ap_gsC, ap_app, Res.bind_ok, Res.bind_exc, Res.of_some, exOut_ok, exOut_exc, wipeE, Option.bind_some, List.length_cons, List.length_nil, List.getElem?_cons_zero, List.getElem?_cons_succ, List.set_cons_zero, List.set_cons_succ, List.map_cons, List.map_nil, addD, subD, cmpI, negD, modD, ap_lenL, ap_lenT, intD, int1, int2, walkD, if_true, if_false, decide_eq_true_eq, Bool.false_eq_true, reduceIte, Nat.reduceAdd, Nat.reduceSub, List.replicate_succ, List.replicate_zero, List.cons_append, List.nil_append, z2])]
    simp only [ap_var, ap_c, ap_m1, ap_m2, ap_m3, ap_part, ap_nopart, ap_if, ap_isN, ap_notN, ap_list, ap_tup, ap_nil, ap_cons, ap_cb, ap_m1m, ap_chain, ap_isi, ap_mB, ap_asB, ap_and, ap_or, ap_not, ap_yes, ap_call, ap_lc, ap_noX, ap_iseq, ap_iown, ap_seq, th_nx, th_rt, th_exc, ap_skip, ap_set, ap_asg, ap_aug, ap_lm, ap_put, ap_oif, ap_ret, ap_drop, ap_raise, ap_gN, ap_gT, ap_gsN, ap_gsC, ap_app, Res.bind_ok, Res.bind_exc, Res.of_some, exOut_ok, exOut_exc, wipeE, Option.bind_some, List.length_cons, List.length_nil, List.getElem?_cons_zero, List.getElem?_cons_succ, List.set_cons_zero, List.set_cons_succ, List.map_cons, List.map_nil, addD, subD, cmpI, negD, modD, ap_lenL, ap_lenT, intD, int1, int2, walkD, if_true, if_false, decide_eq_true_eq, Bool.false_eq_true, reduceIte, Nat.reduceAdd, Nat.reduceSub, List.replicate_succ, List.replicate_zero, List.cons_append, List.nil_append, List.length_map, sz_ge (show cs.length ≤ 16777216 by omega), List.map_map]
    rw [sy, List.map_map]
    rfl
  obtain ⟨v2, _, hv2⟩ := drawn_ok (a := at' + 1) hx
  obtain ⟨k0, hk0, hk1⟩ := mod_nat v2 (n := (most + 1).toNat) (by omega)
  rw [show (((most + 1).toNat : Nat) : Int) = most + 1 by omega] at hk0
  refine seq_for (fun n e => ∃ (s : List Sy) (j4 j5 j6 j7 j8 : Option D), e = [some (li xs), some (.int at'), some (.int most), some (sy s), j4, j5, j6, j7, j8, none] ∧ WF s ∧ 0 < s.length ∧ s.length ≤ 4 + n) (rng 0 k0) ?_ ⟨_, _, _, _, _, _, rfl, w0 cs c3, by simpa using c1, by simpa using c2⟩ ?_ ?_
  · refine irange_ok (l := [.int k0]) ?_ (range1 (by omega))
    simp only [ap_var, ap_c, ap_m1, ap_m2, ap_m3, ap_part, ap_nopart, ap_if, ap_isN, ap_notN, ap_list, ap_tup, ap_nil, ap_cons, ap_cb, ap_m1m, ap_chain, ap_isi, ap_mB, ap_asB, ap_and, ap_or, ap_not, ap_yes, ap_call, ap_lc, ap_noX, ap_iseq, ap_iown, ap_seq, th_nx, th_rt, th_exc, ap_skip, ap_set, ap_asg, ap_aug, ap_lm, ap_put, ap_oif, ap_ret, ap_drop, ap_raise, ap_gN, ap_gT, ap_gsN, ap_gsC, ap_app, Res.bind_ok, Res.bind_exc, Res.of_some, exOut_ok, exOut_exc, wipeE, Option.bind_some, List.length_cons, List.length_nil, List.getElem?_cons_zero, List.getElem?_cons_succ, List.set_cons_zero, List.set_cons_succ, List.map_cons, List.map_nil, addD, subD, cmpI, negD, modD, ap_lenL, ap_lenT, intD, int1, int2, walkD, if_true, if_false, decide_eq_true_eq, Bool.false_eq_true, reduceIte, Nat.reduceAdd, Nat.reduceSub, List.replicate_succ, List.replicate_zero, List.cons_append, List.nil_append, hv2, show (0 : Int) < most + 1 by omega, hk0]
  · rintro n d e hd ⟨s, j4, j5, j6, j7, j8, rfl, w, q1, q2⟩
    rw [rng_get] at hd
    split at hd <;> cases hd
    rename_i hn
    obtain ⟨v, _, hv⟩ := drawn_ok (a := at' + 2 + (0 + (n : Int))) hx
    have hsl : (0 : Int) < (s.length : Int) := by omega
    have k7 : CDiv v 7 := by unfold CDiv; omega
    have k21 : CDiv v 21 := by unfold CDiv; omega
    have k999 : CDiv v 999 := by unfold CDiv; omega
    have p3 : (0 : Int) < 3 := by decide
    obtain ⟨i, hi, ei⟩ := pick3 (l := v / 7 % 3) (a := v / 21 % (s.length : Int)) (b := (s.length : Int) - 1) (c := if (s.length : Int) - 2 > 0 then (s.length : Int) - 2 else 0) (n := s.length) (mod_in p3) (mod_in hsl) (by omega) (by split <;> omega)
    have m3 := mod_in (a := v / 999) p3
    obtain ⟨j, hj, ej⟩ := pick3 (l := v % 3) (a := v / 999 % (s.length : Int)) (b := (s.length : Int) - 1) (c := if (s.length : Int) - 1 - v / 999 % 3 > 0 then (s.length : Int) - 1 - v / 999 % 3 else 0) (n := s.length) (mod_in p3) (mod_in hsl) (by omega) (by split <;> omega)
    obtain ⟨t, ht⟩ := notIn_ok w (by omega) hi hj
    have zz : s.length < sizeLine := sz_gt (by omega)
    refine ⟨_, [some (li xs), some (.int at'), some (.int most), some (sy (if t = true then s ++ [.P i j] else s)), some (.int (0 + (n : Int))), some (.int v), some (.int (v / 7 % 3)), some (.int i), some (.int j), none], rfl, ?_, _, _, _, _, _, _, rfl, ?_⟩
    · refine seq_nx (e := [some (li xs), some (.int at'), some (.int most), some (sy s), some (.int (0 + (n : Int))), some (.int v), j6, j7, j8, none]) ?_ ?_
      · simp only [ap_var, ap_c, ap_m1, ap_m2, ap_m3, ap_part, ap_nopart, ap_if, ap_isN, ap_notN, ap_list, ap_tup, ap_nil, ap_cons, ap_cb, ap_m1m, ap_chain, ap_isi, ap_mB, ap_asB, ap_and, ap_or, ap_not, ap_yes, ap_call, ap_lc, ap_noX, ap_iseq, ap_iown, ap_seq, th_nx, th_rt, th_exc, ap_skip, ap_set, ap_asg, ap_aug, ap_lm, ap_put, ap_oif, ap_ret, ap_drop, ap_raise, ap_gN, ap_gT, ap_gsN, ap_gsC, ap_app, Res.bind_ok, Res.bind_exc, Res.of_some, exOut_ok, exOut_exc, wipeE, Option.bind_some, List.length_cons, List.length_nil, List.getElem?_cons_zero, List.getElem?_cons_succ, List.set_cons_zero, List.set_cons_succ, List.map_cons, List.map_nil, addD, subD, cmpI, negD, modD, ap_lenL, ap_lenT, intD, int1, int2, walkD, if_true, if_false, decide_eq_true_eq, Bool.false_eq_true, reduceIte, Nat.reduceAdd, Nat.reduceSub, List.replicate_succ, List.replicate_zero, List.cons_append, List.nil_append, hv]
      refine seq_nx (e := [some (li xs), some (.int at'), some (.int most), some (sy s), some (.int (0 + (n : Int))), some (.int v), some (.int (v / 7 % 3)), j7, j8, none]) ?_ ?_
      · simp only [ap_var, ap_c, ap_m1, ap_m2, ap_m3, ap_part, ap_nopart, ap_if, ap_isN, ap_notN, ap_list, ap_tup, ap_nil, ap_cons, ap_cb, ap_m1m, ap_chain, ap_isi, ap_mB, ap_asB, ap_and, ap_or, ap_not, ap_yes, ap_call, ap_lc, ap_noX, ap_iseq, ap_iown, ap_seq, th_nx, th_rt, th_exc, ap_skip, ap_set, ap_asg, ap_aug, ap_lm, ap_put, ap_oif, ap_ret, ap_drop, ap_raise, ap_gN, ap_gT, ap_gsN, ap_gsC, ap_app, Res.bind_ok, Res.bind_exc, Res.of_some, exOut_ok, exOut_exc, wipeE, Option.bind_some, List.length_cons, List.length_nil, List.getElem?_cons_zero, List.getElem?_cons_succ, List.set_cons_zero, List.set_cons_succ, List.map_cons, List.map_nil, addD, subD, cmpI, negD, modD, ap_lenL, ap_lenT, intD, int1, int2, walkD, if_true, if_false, decide_eq_true_eq, Bool.false_eq_true, reduceIte, Nat.reduceAdd, Nat.reduceSub, List.replicate_succ, List.replicate_zero, List.cons_append, List.nil_append, fdivD, k7, p3]
      refine seq_nx (e := [some (li xs), some (.int at'), some (.int most), some (sy s), some (.int (0 + (n : Int))), some (.int v), some (.int (v / 7 % 3)), some (.int i), j8, none]) ?_ ?_
      · simp only [ap_var, ap_c, ap_m1, ap_m2, ap_m3, ap_part, ap_nopart, ap_if, ap_isN, ap_notN, ap_list, ap_tup, ap_nil, ap_cons, ap_cb, ap_m1m, ap_chain, ap_isi, ap_mB, ap_asB, ap_and, ap_or, ap_not, ap_yes, ap_call, ap_lc, ap_noX, ap_iseq, ap_iown, ap_seq, th_nx, th_rt, th_exc, ap_skip, ap_set, ap_asg, ap_aug, ap_lm, ap_put, ap_oif, ap_ret, ap_drop, ap_raise, ap_gN, ap_gT, ap_gsN, ap_gsC, ap_app, Res.bind_ok, Res.bind_exc, Res.of_some, exOut_ok, exOut_exc, wipeE, Option.bind_some, List.length_cons, List.length_nil, List.getElem?_cons_zero, List.getElem?_cons_succ, List.set_cons_zero, List.set_cons_succ, List.map_cons, List.map_nil, addD, subD, cmpI, negD, modD, ap_lenL, ap_lenT, intD, int1, int2, walkD, if_true, if_false, decide_eq_true_eq, Bool.false_eq_true, reduceIte, Nat.reduceAdd, Nat.reduceSub, List.replicate_succ, List.replicate_zero, List.cons_append, List.nil_append, fdivD, k21, List.length_map, hsl, z3, ei]
      refine seq_nx (e := [some (li xs), some (.int at'), some (.int most), some (sy s), some (.int (0 + (n : Int))), some (.int v), some (.int (v / 7 % 3)), some (.int i), some (.int j), none]) ?_ ?_
      · simp only [ap_var, ap_c, ap_m1, ap_m2, ap_m3, ap_part, ap_nopart, ap_if, ap_isN, ap_notN, ap_list, ap_tup, ap_nil, ap_cons, ap_cb, ap_m1m, ap_chain, ap_isi, ap_mB, ap_asB, ap_and, ap_or, ap_not, ap_yes, ap_call, ap_lc, ap_noX, ap_iseq, ap_iown, ap_seq, th_nx, th_rt, th_exc, ap_skip, ap_set, ap_asg, ap_aug, ap_lm, ap_put, ap_oif, ap_ret, ap_drop, ap_raise, ap_gN, ap_gT, ap_gsN, ap_gsC, ap_app, Res.bind_ok, Res.bind_exc, Res.of_some, exOut_ok, exOut_exc, wipeE, Option.bind_some, List.length_cons, List.length_nil, List.getElem?_cons_zero, List.getElem?_cons_succ, List.set_cons_zero, List.set_cons_succ, List.map_cons, List.map_nil, addD, subD, cmpI, negD, modD, ap_lenL, ap_lenT, intD, int1, int2, walkD, if_true, if_false, decide_eq_true_eq, Bool.false_eq_true, reduceIte, Nat.reduceAdd, Nat.reduceSub, List.replicate_succ, List.replicate_zero, List.cons_append, List.nil_append, fdivD, k999, List.length_map, hsl, z3, p3, ej]
      cases t with
      | true =>
        simp only [ap_var, ap_c, ap_m1, ap_m2, ap_m3, ap_part, ap_nopart, ap_if, ap_isN, ap_notN, ap_list, ap_tup, ap_nil, ap_cons, ap_cb, ap_m1m, ap_chain, ap_isi, ap_mB, ap_asB, ap_and, ap_or, ap_not, ap_yes, ap_call, ap_lc, ap_noX, ap_iseq, ap_iown, ap_seq, th_nx, th_rt, th_exc, ap_skip, ap_set, ap_asg, ap_aug, ap_lm, ap_put, ap_oif, ap_ret, ap_drop, ap_raise, ap_gN, ap_gT, ap_gsN, ap_gsC, ap_app, Res.bind_ok, Res.bind_exc, Res.of_some, exOut_ok, exOut_exc, wipeE, Option.bind_some, List.length_cons, List.length_nil, List.getElem?_cons_zero, List.getElem?_cons_succ, List.set_cons_zero, List.set_cons_succ, List.map_cons, List.map_nil, addD, subD, cmpI, negD, modD, ap_lenL, ap_lenT, intD, int1, int2, walkD, if_true, if_false, decide_eq_true_eq, Bool.false_eq_true, reduceIte, Nat.reduceAdd, Nat.reduceSub, List.replicate_succ, List.replicate_zero, List.cons_append, List.nil_append, z3, ht, List.length_map, zz]
        simp [sy, Sy.d]
      | false =>
        simp only [ap_var, ap_c, ap_m1, ap_m2, ap_m3, ap_part, ap_nopart, ap_if, ap_isN, ap_notN, ap_list, ap_tup, ap_nil, ap_cons, ap_cb, ap_m1m, ap_chain, ap_isi, ap_mB, ap_asB, ap_and, ap_or, ap_not, ap_yes, ap_call, ap_lc, ap_noX, ap_iseq, ap_iown, ap_seq, th_nx, th_rt, th_exc, ap_skip, ap_set, ap_asg, ap_aug, ap_lm, ap_put, ap_oif, ap_ret, ap_drop, ap_raise, ap_gN, ap_gT, ap_gsN, ap_gsC, ap_app, Res.bind_ok, Res.bind_exc, Res.of_some, exOut_ok, exOut_exc, wipeE, Option.bind_some, List.length_cons, List.length_nil, List.getElem?_cons_zero, List.getElem?_cons_succ, List.set_cons_zero, List.set_cons_succ, List.map_cons, List.map_nil, addD, subD, cmpI, negD, modD, ap_lenL, ap_lenT, intD, int1, int2, walkD, if_true, if_false, decide_eq_true_eq, Bool.false_eq_true, reduceIte, Nat.reduceAdd, Nat.reduceSub, List.replicate_succ, List.replicate_zero, List.cons_append, List.nil_append, z3, ht]
    · cases t with
      | true => exact ⟨w.snoc ⟨hi, hj⟩, by simp, by simp; omega⟩
      | false => exact ⟨w, q1, by simp; omega⟩
  · rintro e ⟨s, j4, j5, j6, j7, j8, rfl, w, q1, q2⟩
    have : (rng 0 k0).length = k0 := by simp [rng]
    refine ⟨_, ?_, s, rfl, w, q1, by omega⟩
    simp only [ap_var, ap_c, ap_m1, ap_m2, ap_m3, ap_part, ap_nopart, ap_if, ap_isN, ap_notN, ap_list, ap_tup, ap_nil, ap_cons, ap_cb, ap_m1m, ap_chain, ap_isi, ap_mB, ap_asB, ap_and, ap_or, ap_not, ap_yes, ap_call, ap_lc, ap_noX, ap_iseq, ap_iown, ap_seq, th_nx, th_rt, th_exc, ap_skip, ap_set, ap_asg, ap_aug, ap_lm, ap_put, ap_oif, ap_ret, ap_drop, ap_raise, ap_gN, ap_gT, ap_gsN, ap_gsC, ap_app, Res.bind_ok, Res.bind_exc, Res.of_some, exOut_ok, exOut_exc, wipeE, Option.bind_some, List.length_cons, List.length_nil, List.getElem?_cons_zero, List.getElem?_cons_succ, List.set_cons_zero, List.set_cons_succ, List.map_cons, List.map_nil, addD, subD, cmpI, negD, modD, ap_lenL, ap_lenT, intD, int1, int2, walkD, if_true, if_false, decide_eq_true_eq, Bool.false_eq_true, reduceIte, Nat.reduceAdd, Nat.reduceSub, List.replicate_succ, List.replicate_zero, List.cons_append, List.nil_append]
end K70

namespace K70
open PySem PySem.Spec L2 DL
theorem eqi {i j : Int} {b : Bool} (h : decide (i = j) = b) : eqD (.int i) (.int j) = some (.bool b) := by subst h; rfl
theorem lx0 {a b : D} : ixD (.list [a, b]) (.int 0) = some a := ix_nat (n := 0) rfl
theorem lx1 {a b : D} : ixD (.list [a, b]) (.int 1) = some b := ix_nat (n := 1) rfl
theorem roots_ok {xs : List Int} (hx : 0 < xs.length) {at' : Int} {s : List Sy} (h0 : 0 < s.length) (hz : s.length < 1000) : ∃ rs, m__law_roots [li xs, .int at', sy s] = .ok (.list rs) ∧ rs.length ≤ 9 ∧ ∀ d ∈ rs, Sm 64 0 d := by
  suffices H : ∃ x, o__law_roots [some (li xs), some (.int at'), some (sy s), none, none, none] = x ∧ ∃ rs, x = .rt (.list rs) ∧ rs.length ≤ 9 ∧ ∀ d ∈ rs, Sm 64 0 d by
    obtain ⟨x, h0, s, h1, h2⟩ := H
    exact ⟨s, run_rt (h0.trans h1), h2⟩
  obtain ⟨v, _, hv⟩ := drawn_ok (a := at') hx
  obtain ⟨k0, hk0, hk1⟩ := mod_nat v (n := 9) (by omega)
  rw [show ((9 : Nat) : Int) = 9 from rfl] at hk0
  refine seq_ex (e := [some (li xs), some (.int at'), some (sy s), some (.list []), none, none]) ?_ ?_
  · simp only [ap_var, ap_c, ap_m1, ap_m2, ap_m3, ap_part, ap_nopart, ap_if, ap_isN, ap_notN, ap_list, ap_tup, ap_nil, ap_cons, ap_cb, ap_m1m, ap_chain, ap_isi, ap_mB, ap_asB, ap_and, ap_or, ap_not, ap_yes, ap_call, ap_lc, ap_noX, ap_iseq, ap_iown, ap_seq, th_nx, th_rt, th_exc, ap_skip, ap_set, ap_asg, ap_aug, ap_lm, ap_put, ap_oif, ap_ret, ap_drop, ap_raise, ap_gN, ap_gT, ap_gsN, ap_gsC, ap_app, Res.bind_ok, Res.bind_exc, Res.of_some, exOut_ok, exOut_exc, wipeE, Option.bind_some, List.length_cons, List.length_nil, List.getElem?_cons_zero, List.getElem?_cons_succ, List.set_cons_zero, List.set_cons_succ, List.map_cons, List.map_nil, addD, subD, cmpI, negD, modD, ap_lenL, ap_lenT, intD, int1, int2, walkD, if_true, if_false, decide_eq_true_eq, Bool.false_eq_true, reduceIte, Nat.reduceAdd, Nat.reduceSub, List.replicate_succ, List.replicate_zero, List.cons_append, List.nil_append, sz_ge (show 0 ≤ 16777216 by omega)]
  refine seq_for (fun n e => ∃ (rs : List D) (j4 j5 : Option D), e = [some (li xs), some (.int at'), some (sy s), some (.list rs), j4, j5] ∧ rs.length = n ∧ ∀ d ∈ rs, Sm 64 0 d) (rng 0 k0) ?_ ⟨[], _, _, rfl, rfl, fun _ h => nomatch h⟩ ?_ ?_
  · refine irange_ok (l := [.int k0]) ?_ (range1 (by omega))
    simp only [ap_var, ap_c, ap_m1, ap_m2, ap_m3, ap_part, ap_nopart, ap_if, ap_isN, ap_notN, ap_list, ap_tup, ap_nil, ap_cons, ap_cb, ap_m1m, ap_chain, ap_isi, ap_mB, ap_asB, ap_and, ap_or, ap_not, ap_yes, ap_call, ap_lc, ap_noX, ap_iseq, ap_iown, ap_seq, th_nx, th_rt, th_exc, ap_skip, ap_set, ap_asg, ap_aug, ap_lm, ap_put, ap_oif, ap_ret, ap_drop, ap_raise, ap_gN, ap_gT, ap_gsN, ap_gsC, ap_app, Res.bind_ok, Res.bind_exc, Res.of_some, exOut_ok, exOut_exc, wipeE, Option.bind_some, List.length_cons, List.length_nil, List.getElem?_cons_zero, List.getElem?_cons_succ, List.set_cons_zero, List.set_cons_succ, List.map_cons, List.map_nil, addD, subD, cmpI, negD, modD, ap_lenL, ap_lenT, intD, int1, int2, walkD, if_true, if_false, decide_eq_true_eq, Bool.false_eq_true, reduceIte, Nat.reduceAdd, Nat.reduceSub, List.replicate_succ, List.replicate_zero, List.cons_append, List.nil_append, hv, show (0 : Int) < 9 by decide, hk0]
  · rintro n d e hd ⟨rs, j4, j5, rfl, q1, q2⟩
    rw [rng_get] at hd
    split at hd <;> cases hd
    rename_i hn
    obtain ⟨v, _, hv⟩ := drawn_ok (a := at' + 1 + (0 + (n : Int))) hx
    have hsl : (0 : Int) < (s.length : Int) := by omega
    have k4 : CDiv v 4 := by unfold CDiv; omega
    obtain ⟨i, hi, hi2⟩ := int_in (mod_in (a := v / 4) hsl)
    have z2 : 2 ≤ sizeLine := sz_ge (by omega)
    have zz : rs.length < sizeLine := sz_gt (by omega)
    refine ⟨_, [some (li xs), some (.int at'), some (sy s), some (.list (rs ++ [if v % 4 = 1 then .none else .int (v / 4 % (s.length : Int))])), some (.int (0 + (n : Int))), some (.int v)], rfl, ?_, _, _, _, rfl, by simp [q1], ?_⟩
    · have p4 : (0 : Int) < 4 := by decide
      refine seq_nx (e := [some (li xs), some (.int at'), some (sy s), some (.list rs), some (.int (0 + (n : Int))), some (.int v)]) ?_ ?_
      · simp only [ap_var, ap_c, ap_m1, ap_m2, ap_m3, ap_part, ap_nopart, ap_if, ap_isN, ap_notN, ap_list, ap_tup, ap_nil, ap_cons, ap_cb, ap_m1m, ap_chain, ap_isi, ap_mB, ap_asB, ap_and, ap_or, ap_not, ap_yes, ap_call, ap_lc, ap_noX, ap_iseq, ap_iown, ap_seq, th_nx, th_rt, th_exc, ap_skip, ap_set, ap_asg, ap_aug, ap_lm, ap_put, ap_oif, ap_ret, ap_drop, ap_raise, ap_gN, ap_gT, ap_gsN, ap_gsC, ap_app, Res.bind_ok, Res.bind_exc, Res.of_some, exOut_ok, exOut_exc, wipeE, Option.bind_some, List.length_cons, List.length_nil, List.getElem?_cons_zero, List.getElem?_cons_succ, List.set_cons_zero, List.set_cons_succ, List.map_cons, List.map_nil, addD, subD, cmpI, negD, modD, ap_lenL, ap_lenT, intD, int1, int2, walkD, if_true, if_false, decide_eq_true_eq, Bool.false_eq_true, reduceIte, Nat.reduceAdd, Nat.reduceSub, List.replicate_succ, List.replicate_zero, List.cons_append, List.nil_append, hv]
      by_cases h : v % 4 = 1
      · simp only [ap_var, ap_c, ap_m1, ap_m2, ap_m3, ap_part, ap_nopart, ap_if, ap_isN, ap_notN, ap_list, ap_tup, ap_nil, ap_cons, ap_cb, ap_m1m, ap_chain, ap_isi, ap_mB, ap_asB, ap_and, ap_or, ap_not, ap_yes, ap_call, ap_lc, ap_noX, ap_iseq, ap_iown, ap_seq, th_nx, th_rt, th_exc, ap_skip, ap_set, ap_asg, ap_aug, ap_lm, ap_put, ap_oif, ap_ret, ap_drop, ap_raise, ap_gN, ap_gT, ap_gsN, ap_gsC, ap_app, Res.bind_ok, Res.bind_exc, Res.of_some, exOut_ok, exOut_exc, wipeE, Option.bind_some, List.length_cons, List.length_nil, List.getElem?_cons_zero, List.getElem?_cons_succ, List.set_cons_zero, List.set_cons_succ, List.map_cons, List.map_nil, addD, subD, cmpI, negD, modD, ap_lenL, ap_lenT, intD, int1, int2, walkD, if_true, if_false, decide_eq_true_eq, Bool.false_eq_true, reduceIte, Nat.reduceAdd, Nat.reduceSub, List.replicate_succ, List.replicate_zero, List.cons_append, List.nil_append, fdivD, k4, hv, List.length_map, hsl, z2, p4, eqi (decide_eq_true h), lx1, zz]
        rw [if_pos h]
      · simp only [ap_var, ap_c, ap_m1, ap_m2, ap_m3, ap_part, ap_nopart, ap_if, ap_isN, ap_notN, ap_list, ap_tup, ap_nil, ap_cons, ap_cb, ap_m1m, ap_chain, ap_isi, ap_mB, ap_asB, ap_and, ap_or, ap_not, ap_yes, ap_call, ap_lc, ap_noX, ap_iseq, ap_iown, ap_seq, th_nx, th_rt, th_exc, ap_skip, ap_set, ap_asg, ap_aug, ap_lm, ap_put, ap_oif, ap_ret, ap_drop, ap_raise, ap_gN, ap_gT, ap_gsN, ap_gsC, ap_app, Res.bind_ok, Res.bind_exc, Res.of_some, exOut_ok, exOut_exc, wipeE, Option.bind_some, List.length_cons, List.length_nil, List.getElem?_cons_zero, List.getElem?_cons_succ, List.set_cons_zero, List.set_cons_succ, List.map_cons, List.map_nil, addD, subD, cmpI, negD, modD, ap_lenL, ap_lenT, intD, int1, int2, walkD, if_true, if_false, decide_eq_true_eq, Bool.false_eq_true, reduceIte, Nat.reduceAdd, Nat.reduceSub, List.replicate_succ, List.replicate_zero, List.cons_append, List.nil_append, fdivD, k4, hv, List.length_map, hsl, z2, p4, eqi (decide_eq_false h), lx0, zz]
        rw [if_neg h]
    · intro d hd
      rcases List.mem_append.mp hd with hd | hd
      · exact q2 d hd
      · simp at hd
        subst hd
        split
        · exact Sm.none.mono (by omega) (by omega)
        · rw [hi]; exact Sm.int (by omega)
  · rintro e ⟨rs, j4, j5, rfl, q1, q2⟩
    have : (rng 0 k0).length = k0 := by simp [rng]
    refine ⟨_, ?_, rs, rfl, by omega, q2⟩
    simp only [ap_var, ap_c, ap_m1, ap_m2, ap_m3, ap_part, ap_nopart, ap_if, ap_isN, ap_notN, ap_list, ap_tup, ap_nil, ap_cons, ap_cb, ap_m1m, ap_chain, ap_isi, ap_mB, ap_asB, ap_and, ap_or, ap_not, ap_yes, ap_call, ap_lc, ap_noX, ap_iseq, ap_iown, ap_seq, th_nx, th_rt, th_exc, ap_skip, ap_set, ap_asg, ap_aug, ap_lm, ap_put, ap_oif, ap_ret, ap_drop, ap_raise, ap_gN, ap_gT, ap_gsN, ap_gsC, ap_app, Res.bind_ok, Res.bind_exc, Res.of_some, exOut_ok, exOut_exc, wipeE, Option.bind_some, List.length_cons, List.length_nil, List.getElem?_cons_zero, List.getElem?_cons_succ, List.set_cons_zero, List.set_cons_succ, List.map_cons, List.map_nil, addD, subD, cmpI, negD, modD, ap_lenL, ap_lenT, intD, int1, int2, walkD, if_true, if_false, decide_eq_true_eq, Bool.false_eq_true, reduceIte, Nat.reduceAdd, Nat.reduceSub, List.replicate_succ, List.replicate_zero, List.cons_append, List.nil_append]
/-! ### the law's own sizes and texts -/
theorem isi_int {i : Int} : isiD "int" (.int i) = some (.bool true) := by
  show (kitB "int" "int").map PyData.bool = _
  exact congrArg (fun o => Option.map PyData.bool o) (by decide +kernel : kitB "int" "int" = some true)
theorem isi_str {x : Str} : isiD "int" (.str x) = some (.bool false) := by
  show (kitB "str" "int").map PyData.bool = _
  exact congrArg (fun o => Option.map PyData.bool o) (by decide +kernel : kitB "str" "int" = some false)
theorem lsizes_ok {s : List Sy} (w : WF s) (hz : s.length < 1000) : m__law_sizes [sy s] = .ok (szl s) := by
  suffices H : ∃ x, o__law_sizes [some (sy s), none, none, none] = x ∧ x = .rt (szl s) by
    obtain ⟨x, h1, rfl⟩ := H
    exact run_rt h1
  refine seq_ex (e := [some (sy s), some (szl []), none, none]) ?_ ?_
  · simp only [ap_var, ap_c, ap_m1, ap_m2, ap_m3, ap_part, ap_nopart, ap_if, ap_isN, ap_notN, ap_list, ap_tup, ap_nil, ap_cons, ap_cb, ap_m1m, ap_chain, ap_isi, ap_mB, ap_asB, ap_and, ap_or, ap_not, ap_yes, ap_call, ap_lc, ap_noX, ap_iseq, ap_iown, ap_seq, th_nx, th_rt, th_exc, ap_skip, ap_set, ap_asg, ap_aug, ap_lm, ap_put, ap_oif, ap_ret, ap_drop, ap_raise, ap_gN, ap_gT, ap_gsN, ap_gsC, ap_app, Res.bind_ok, Res.bind_exc, Res.of_some, exOut_ok, exOut_exc, wipeE, Option.bind_some, List.length_cons, List.length_nil, List.getElem?_cons_zero, List.getElem?_cons_succ, List.set_cons_zero, List.set_cons_succ, List.map_cons, List.map_nil, addD, subD, cmpI, negD, modD, ap_lenL, ap_lenT, intD, int1, int2, walkD, if_true, if_false, decide_eq_true_eq, Bool.false_eq_true, reduceIte, Nat.reduceAdd, Nat.reduceSub, List.replicate_succ, List.replicate_zero, List.cons_append, List.nil_append, sz_ge (show 0 ≤ 16777216 by omega)]
    rfl
  refine seq_for (fun n e => ∃ j, e = [some (sy s), some (szl (s.take n)), j, none]) (s.map Sy.d) rfl ⟨none, rfl⟩ ?_ ?_
  · rintro n d e hd ⟨j, rfl⟩
    obtain ⟨x, hx, rfl⟩ := map_get hd
    have hn := lt_of_get hx
    refine ⟨_, [some (sy s), some (szl (s.take (n + 1))), some x.d, none], rfl, ?_, _, rfl⟩
    have hz2 : ((txs (s.take n)).map fun t => PyData.int t.length).length < sizeLine := sz_gt (by simp [txs_length]; omega)
    have z2 : 2 ≤ sizeLine := sz_ge (by omega)
    have z0 : 0 ≤ sizeLine := sz_ge (by omega)
    rw [← szl_snoc hx]
    cases x with
    | L c =>
      have hs : slD (Sy.L c).d (some 1) none = some (.tuple [.str (txS [c])]) := rfl
      have hl : lcG (gN 3) (mB (mIsi "int" (mVar 3))) (m2 ixD (mVar 1) (mVar 3)) [.str (txS [c])] [some (sy s), some (szl (s.take n)), some (Sy.L c).d, none] = .ok [] := by
        simp only [lcG, ap_var, ap_c, ap_m1, ap_m2, ap_m3, ap_part, ap_nopart, ap_if, ap_isN, ap_notN, ap_list, ap_tup, ap_nil, ap_cons, ap_cb, ap_m1m, ap_chain, ap_isi, ap_mB, ap_asB, ap_and, ap_or, ap_not, ap_yes, ap_call, ap_lc, ap_noX, ap_iseq, ap_iown, ap_seq, th_nx, th_rt, th_exc, ap_skip, ap_set, ap_asg, ap_aug, ap_lm, ap_put, ap_oif, ap_ret, ap_drop, ap_raise, ap_gN, ap_gT, ap_gsN, ap_gsC, ap_app, Res.bind_ok, Res.bind_exc, Res.of_some, exOut_ok, exOut_exc, wipeE, Option.bind_some, List.length_cons, List.length_nil, List.getElem?_cons_zero, List.getElem?_cons_succ, List.set_cons_zero, List.set_cons_succ, List.map_cons, List.map_nil, addD, subD, cmpI, negD, modD, ap_lenL, ap_lenT, intD, int1, int2, walkD, if_true, if_false, decide_eq_true_eq, Bool.false_eq_true, reduceIte, Nat.reduceAdd, Nat.reduceSub, List.replicate_succ, List.replicate_zero, List.cons_append, List.nil_append, isi_str]
      simp only [ap_var, ap_c, ap_m1, ap_m2, ap_m3, ap_part, ap_nopart, ap_if, ap_isN, ap_notN, ap_list, ap_tup, ap_nil, ap_cons, ap_cb, ap_m1m, ap_chain, ap_isi, ap_mB, ap_asB, ap_and, ap_or, ap_not, ap_yes, ap_call, ap_lc, ap_noX, ap_iseq, ap_iown, ap_seq, th_nx, th_rt, th_exc, ap_skip, ap_set, ap_asg, ap_aug, ap_lm, ap_put, ap_oif, ap_ret, ap_drop, ap_raise, ap_gN, ap_gT, ap_gsN, ap_gsC, ap_app, Res.bind_ok, Res.bind_exc, Res.of_some, exOut_ok, exOut_exc, wipeE, Option.bind_some, List.length_cons, List.length_nil, List.getElem?_cons_zero, List.getElem?_cons_succ, List.set_cons_zero, List.set_cons_succ, List.map_cons, List.map_nil, addD, subD, cmpI, negD, modD, ap_lenL, ap_lenT, intD, int1, int2, walkD, if_true, if_false, decide_eq_true_eq, Bool.false_eq_true, reduceIte, Nat.reduceAdd, Nat.reduceSub, List.replicate_succ, List.replicate_zero, List.cons_append, List.nil_append, hs, hl, z0, sumD, intsOf, Option.map_some, d_L0, str_lp, lx0, hz2, tx_L hx]
      simp only [sumD, intsOf, Option.map_some, ap_var, ap_c, ap_m1, ap_m2, ap_m3, ap_part, ap_nopart, ap_if, ap_isN, ap_notN, ap_list, ap_tup, ap_nil, ap_cons, ap_cb, ap_m1m, ap_chain, ap_isi, ap_mB, ap_asB, ap_and, ap_or, ap_not, ap_yes, ap_call, ap_lc, ap_noX, ap_iseq, ap_iown, ap_seq, th_nx, th_rt, th_exc, ap_skip, ap_set, ap_asg, ap_aug, ap_lm, ap_put, ap_oif, ap_ret, ap_drop, ap_raise, ap_gN, ap_gT, ap_gsN, ap_gsC, ap_app, Res.bind_ok, Res.bind_exc, Res.of_some, exOut_ok, exOut_exc, wipeE, Option.bind_some, List.length_cons, List.length_nil, List.getElem?_cons_zero, List.getElem?_cons_succ, List.set_cons_zero, List.set_cons_succ, List.map_cons, List.map_nil, addD, subD, cmpI, negD, modD, ap_lenL, ap_lenT, intD, int1, int2, walkD, if_true, if_false, decide_eq_true_eq, Bool.false_eq_true, reduceIte, Nat.reduceAdd, Nat.reduceSub, List.replicate_succ, List.replicate_zero, List.cons_append, List.nil_append, z2, lx0, hz2]
      rfl
    | P i j =>
      obtain ⟨hi, hj⟩ := w.pair n i j hx
      have h1 := szl_get (s := s.take n) (k := i) (by simp; omega)
      have h2 := szl_get (s := s.take n) (k := j) (by simp; omega)
      rw [tx_take hi (by omega)] at h1
      rw [tx_take hj (by omega)] at h2
      have hs : slD (Sy.P i j).d (some 1) none = some (.tuple [.int i, .int j]) := rfl
      have hl : lcG (gN 3) (mB (mIsi "int" (mVar 3))) (m2 ixD (mVar 1) (mVar 3)) [.int i, .int j] [some (sy s), some (szl (s.take n)), some (Sy.P i j).d, none] = .ok [.int (tx s i).length, .int (tx s j).length] := by
        simp only [lcG, ap_var, ap_c, ap_m1, ap_m2, ap_m3, ap_part, ap_nopart, ap_if, ap_isN, ap_notN, ap_list, ap_tup, ap_nil, ap_cons, ap_cb, ap_m1m, ap_chain, ap_isi, ap_mB, ap_asB, ap_and, ap_or, ap_not, ap_yes, ap_call, ap_lc, ap_noX, ap_iseq, ap_iown, ap_seq, th_nx, th_rt, th_exc, ap_skip, ap_set, ap_asg, ap_aug, ap_lm, ap_put, ap_oif, ap_ret, ap_drop, ap_raise, ap_gN, ap_gT, ap_gsN, ap_gsC, ap_app, Res.bind_ok, Res.bind_exc, Res.of_some, exOut_ok, exOut_exc, wipeE, Option.bind_some, List.length_cons, List.length_nil, List.getElem?_cons_zero, List.getElem?_cons_succ, List.set_cons_zero, List.set_cons_succ, List.map_cons, List.map_nil, addD, subD, cmpI, negD, modD, ap_lenL, ap_lenT, intD, int1, int2, walkD, if_true, if_false, decide_eq_true_eq, Bool.false_eq_true, reduceIte, Nat.reduceAdd, Nat.reduceSub, List.replicate_succ, List.replicate_zero, List.cons_append, List.nil_append, isi_int, h1, h2]
      have hsum : sumD [.list [.int (tx s i).length, .int (tx s j).length]] = some (.int ((tx s i).length + (tx s j).length)) := by
        simp [sumD, intsOf]
      simp only [ap_var, ap_c, ap_m1, ap_m2, ap_m3, ap_part, ap_nopart, ap_if, ap_isN, ap_notN, ap_list, ap_tup, ap_nil, ap_cons, ap_cb, ap_m1m, ap_chain, ap_isi, ap_mB, ap_asB, ap_and, ap_or, ap_not, ap_yes, ap_call, ap_lc, ap_noX, ap_iseq, ap_iown, ap_seq, th_nx, th_rt, th_exc, ap_skip, ap_set, ap_asg, ap_aug, ap_lm, ap_put, ap_oif, ap_ret, ap_drop, ap_raise, ap_gN, ap_gT, ap_gsN, ap_gsC, ap_app, Res.bind_ok, Res.bind_exc, Res.of_some, exOut_ok, exOut_exc, wipeE, Option.bind_some, List.length_cons, List.length_nil, List.getElem?_cons_zero, List.getElem?_cons_succ, List.set_cons_zero, List.set_cons_succ, List.map_cons, List.map_nil, addD, subD, cmpI, negD, modD, ap_lenL, ap_lenT, intD, int1, int2, walkD, if_true, if_false, decide_eq_true_eq, Bool.false_eq_true, reduceIte, Nat.reduceAdd, Nat.reduceSub, List.replicate_succ, List.replicate_zero, List.cons_append, List.nil_append, hs, hl, hsum, z2, d_P0, str_pq, lx1, hz2, tx_P w hx]
      simp
  · rintro e ⟨j, rfl⟩
    refine ⟨_, ?_, rfl⟩
    simp only [ap_var, ap_c, ap_m1, ap_m2, ap_m3, ap_part, ap_nopart, ap_if, ap_isN, ap_notN, ap_list, ap_tup, ap_nil, ap_cons, ap_cb, ap_m1m, ap_chain, ap_isi, ap_mB, ap_asB, ap_and, ap_or, ap_not, ap_yes, ap_call, ap_lc, ap_noX, ap_iseq, ap_iown, ap_seq, th_nx, th_rt, th_exc, ap_skip, ap_set, ap_asg, ap_aug, ap_lm, ap_put, ap_oif, ap_ret, ap_drop, ap_raise, ap_gN, ap_gT, ap_gsN, ap_gsC, ap_app, Res.bind_ok, Res.bind_exc, Res.of_some, exOut_ok, exOut_exc, wipeE, Option.bind_some, List.length_cons, List.length_nil, List.getElem?_cons_zero, List.getElem?_cons_succ, List.set_cons_zero, List.set_cons_succ, List.map_cons, List.map_nil, addD, subD, cmpI, negD, modD, ap_lenL, ap_lenT, intD, int1, int2, walkD, if_true, if_false, decide_eq_true_eq, Bool.false_eq_true, reduceIte, Nat.reduceAdd, Nat.reduceSub, List.replicate_succ, List.replicate_zero, List.cons_append, List.nil_append]
    simp
def tD (t : List Nat) : D := if t.length ≤ 4000 then .str (txS t) else .none
abbrev tl (s : List Sy) : D := .list ((txs s).map tD)
theorem tl_get {s : List Sy} {k : Nat} (h : k < s.length) : ixD (tl s) (.int (k : Int)) = some (tD (tx s k)) := ix_nat (by rw [List.getElem?_map, tx_get h]; rfl)
theorem tl_snoc {s : List Sy} {k : Nat} {x : Sy} (h : s[k]? = some x) : (.list ((txs (s.take k)).map tD ++ [tD (tx s k)]) : D) = tl (s.take (k + 1)) := by
  rw [tl, take_snoc h, txs_snoc, tx_at h]; simp
theorem ltexts_ok {s : List Sy} (w : WF s) (hz : s.length < 1000) : m__law_texts [sy s, .int 4000] = .ok (tl s) := by
  suffices H : ∃ x, o__law_texts [some (sy s), some (.int 4000), none, none, none, none] = x ∧ x = .rt (tl s) by
    obtain ⟨x, h1, rfl⟩ := H
    exact run_rt h1
  refine seq_ex (e := [some (sy s), some (.int 4000), some (tl []), none, none, none]) ?_ ?_
  · simp only [ap_var, ap_c, ap_m1, ap_m2, ap_m3, ap_part, ap_nopart, ap_if, ap_isN, ap_notN, ap_list, ap_tup, ap_nil, ap_cons, ap_cb, ap_m1m, ap_chain, ap_isi, ap_mB, ap_asB, ap_and, ap_or, ap_not, ap_yes, ap_call, ap_lc, ap_noX, ap_iseq, ap_iown, ap_seq, th_nx, th_rt, th_exc, ap_skip, ap_set, ap_asg, ap_aug, ap_lm, ap_put, ap_oif, ap_ret, ap_drop, ap_raise, ap_gN, ap_gT, ap_gsN, ap_gsC, ap_app, Res.bind_ok, Res.bind_exc, Res.of_some, exOut_ok, exOut_exc, wipeE, Option.bind_some, List.length_cons, List.length_nil, List.getElem?_cons_zero, List.getElem?_cons_succ, List.set_cons_zero, List.set_cons_succ, List.map_cons, List.map_nil, addD, subD, cmpI, negD, modD, ap_lenL, ap_lenT, intD, int1, int2, walkD, if_true, if_false, decide_eq_true_eq, Bool.false_eq_true, reduceIte, Nat.reduceAdd, Nat.reduceSub, List.replicate_succ, List.replicate_zero, List.cons_append, List.nil_append, sz_ge (show 0 ≤ 16777216 by omega)]
    rfl
  refine seq_ex (e := [some (sy s), some (.int 4000), some (tl []), some (szl s), none, none]) ?_ ?_
  · simp only [ap_var, ap_c, ap_m1, ap_m2, ap_m3, ap_part, ap_nopart, ap_if, ap_isN, ap_notN, ap_list, ap_tup, ap_nil, ap_cons, ap_cb, ap_m1m, ap_chain, ap_isi, ap_mB, ap_asB, ap_and, ap_or, ap_not, ap_yes, ap_call, ap_lc, ap_noX, ap_iseq, ap_iown, ap_seq, th_nx, th_rt, th_exc, ap_skip, ap_set, ap_asg, ap_aug, ap_lm, ap_put, ap_oif, ap_ret, ap_drop, ap_raise, ap_gN, ap_gT, ap_gsN, ap_gsC, ap_app, Res.bind_ok, Res.bind_exc, Res.of_some, exOut_ok, exOut_exc, wipeE, Option.bind_some, List.length_cons, List.length_nil, List.getElem?_cons_zero, List.getElem?_cons_succ, List.set_cons_zero, List.set_cons_succ, List.map_cons, List.map_nil, addD, subD, cmpI, negD, modD, ap_lenL, ap_lenT, intD, int1, int2, walkD, if_true, if_false, decide_eq_true_eq, Bool.false_eq_true, reduceIte, Nat.reduceAdd, Nat.reduceSub, List.replicate_succ, List.replicate_zero, List.cons_append, List.nil_append, lsizes_ok w hz]
  refine seq_for (fun n e => ∃ j4 j5, e = [some (sy s), some (.int 4000), some (tl (s.take n)), some (szl s), j4, j5]) (rng 0 s.length) ?_ ⟨none, none, rfl⟩ ?_ ?_
  · refine irange_ok (l := [.int s.length]) ?_ (range1 (by omega))
    simp only [ap_var, ap_c, ap_m1, ap_m2, ap_m3, ap_part, ap_nopart, ap_if, ap_isN, ap_notN, ap_list, ap_tup, ap_nil, ap_cons, ap_cb, ap_m1m, ap_chain, ap_isi, ap_mB, ap_asB, ap_and, ap_or, ap_not, ap_yes, ap_call, ap_lc, ap_noX, ap_iseq, ap_iown, ap_seq, th_nx, th_rt, th_exc, ap_skip, ap_set, ap_asg, ap_aug, ap_lm, ap_put, ap_oif, ap_ret, ap_drop, ap_raise, ap_gN, ap_gT, ap_gsN, ap_gsC, ap_app, Res.bind_ok, Res.bind_exc, Res.of_some, exOut_ok, exOut_exc, wipeE, Option.bind_some, List.length_cons, List.length_nil, List.getElem?_cons_zero, List.getElem?_cons_succ, List.set_cons_zero, List.set_cons_succ, List.map_cons, List.map_nil, addD, subD, cmpI, negD, modD, ap_lenL, ap_lenT, intD, int1, int2, walkD, if_true, if_false, decide_eq_true_eq, Bool.false_eq_true, reduceIte, Nat.reduceAdd, Nat.reduceSub, List.replicate_succ, List.replicate_zero, List.cons_append, List.nil_append, List.length_map]
  · rintro n d e hd ⟨j4, j5, rfl⟩
    rw [rng_get] at hd
    split at hd <;> cases hd
    rename_i hn
    rw [Int.zero_add]
    obtain ⟨x, hx⟩ : ∃ x, s[n]? = some x := ⟨_, List.getElem?_eq_getElem hn⟩
    have gx := sy_get hx
    have gz := szl_get hn
    have hz2 : ((txs (s.take n)).map tD).length < sizeLine := sz_gt (by simp [txs_length]; omega)
    refine ⟨_, [some (sy s), some (.int 4000), some (tl (s.take (n + 1))), some (szl s), some (.int (n : Int)), some (tD (tx s n))], rfl, ?_, _, _, rfl⟩
    rw [← tl_snoc hx]
    refine seq_nx (e := [some (sy s), some (.int 4000), some (tl (s.take n)), some (szl s), some (.int (n : Int)), some .none]) ?_ ?_
    · simp only [ap_var, ap_c, ap_m1, ap_m2, ap_m3, ap_part, ap_nopart, ap_if, ap_isN, ap_notN, ap_list, ap_tup, ap_nil, ap_cons, ap_cb, ap_m1m, ap_chain, ap_isi, ap_mB, ap_asB, ap_and, ap_or, ap_not, ap_yes, ap_call, ap_lc, ap_noX, ap_iseq, ap_iown, ap_seq, th_nx, th_rt, th_exc, ap_skip, ap_set, ap_asg, ap_aug, ap_lm, ap_put, ap_oif, ap_ret, ap_drop, ap_raise, ap_gN, ap_gT, ap_gsN, ap_gsC, ap_app, Res.bind_ok, Res.bind_exc, Res.of_some, exOut_ok, exOut_exc, wipeE, Option.bind_some, List.length_cons, List.length_nil, List.getElem?_cons_zero, List.getElem?_cons_succ, List.set_cons_zero, List.set_cons_succ, List.map_cons, List.map_nil, addD, subD, cmpI, negD, modD, ap_lenL, ap_lenT, intD, int1, int2, walkD, if_true, if_false, decide_eq_true_eq, Bool.false_eq_true, reduceIte, Nat.reduceAdd, Nat.reduceSub, List.replicate_succ, List.replicate_zero, List.cons_append, List.nil_append]
    refine seq_nx (e := [some (sy s), some (.int 4000), some (tl (s.take n)), some (szl s), some (.int (n : Int)), some (tD (tx s n))]) ?_ ?_
    · cases x with
      | L c =>
        simp only [ap_var, ap_c, ap_m1, ap_m2, ap_m3, ap_part, ap_nopart, ap_if, ap_isN, ap_notN, ap_list, ap_tup, ap_nil, ap_cons, ap_cb, ap_m1m, ap_chain, ap_isi, ap_mB, ap_asB, ap_and, ap_or, ap_not, ap_yes, ap_call, ap_lc, ap_noX, ap_iseq, ap_iown, ap_seq, th_nx, th_rt, th_exc, ap_skip, ap_set, ap_asg, ap_aug, ap_lm, ap_put, ap_oif, ap_ret, ap_drop, ap_raise, ap_gN, ap_gT, ap_gsN, ap_gsC, ap_app, Res.bind_ok, Res.bind_exc, Res.of_some, exOut_ok, exOut_exc, wipeE, Option.bind_some, List.length_cons, List.length_nil, List.getElem?_cons_zero, List.getElem?_cons_succ, List.set_cons_zero, List.set_cons_succ, List.map_cons, List.map_nil, addD, subD, cmpI, negD, modD, ap_lenL, ap_lenT, intD, int1, int2, walkD, if_true, if_false, decide_eq_true_eq, Bool.false_eq_true, reduceIte, Nat.reduceAdd, Nat.reduceSub, List.replicate_succ, List.replicate_zero, List.cons_append, List.nil_append, gx, d_L0, d_L1, str_pl, tx_L hx]
        rfl
      | P i j =>
        obtain ⟨hi, hj⟩ := w.pair n i j hx
        have h1 := tl_get (s := s.take n) (k := i) (by simp; omega)
        have h2 := tl_get (s := s.take n) (k := j) (by simp; omega)
        rw [tx_take hi (by omega)] at h1
        rw [tx_take hj (by omega)] at h2
        have hl : (tx s n).length = (tx s i).length + (tx s j).length := by rw [tx_P w hx, List.length_append]
        by_cases hb : (tx s n).length ≤ 4000
        · have hb' : ((tx s n).length : Int) ≤ 4000 := by omega
          have t1 : tD (tx s i) = .str (txS (tx s i)) := if_pos (by omega)
          have t2 : tD (tx s j) = .str (txS (tx s j)) := if_pos (by omega)
          have t3 : tD (tx s n) = .str (txS (tx s i ++ tx s j)) := by rw [tD, if_pos hb, tx_P w hx]
          rw [t1] at h1
          rw [t2] at h2
          have ha : addD (.str (txS (tx s i))) (.str (txS (tx s j))) = some (.str (txS (tx s i ++ tx s j))) := by
            rw [add_str (sz_ge (by rw [txS_length, txS_length]; omega)), txS_append]
          rw [t3]
          simp only [ap_oif, ap_set, ap_mB, ap_m2, ap_var, ap_c, Res.bind_ok, Res.of_some, exOut_ok, List.getElem?_cons_zero, List.getElem?_cons_succ, List.set_cons_zero, List.set_cons_succ, gx, d_P0, d_P1, d_P2, str_pp, ap_asB, gz, cmpI, hb', decide_true, if_true, Bool.false_eq_true, if_false, h1, h2, ha]
        · have hb' : ¬ ((tx s n).length : Int) ≤ 4000 := by omega
          have t3 : tD (tx s n) = .none := if_neg hb
          rw [t3]
          simp only [ap_var, ap_c, ap_m1, ap_m2, ap_m3, ap_part, ap_nopart, ap_if, ap_isN, ap_notN, ap_list, ap_tup, ap_nil, ap_cons, ap_cb, ap_m1m, ap_chain, ap_isi, ap_mB, ap_asB, ap_and, ap_or, ap_not, ap_yes, ap_call, ap_lc, ap_noX, ap_iseq, ap_iown, ap_seq, th_nx, th_rt, th_exc, ap_skip, ap_set, ap_asg, ap_aug, ap_lm, ap_put, ap_oif, ap_ret, ap_drop, ap_raise, ap_gN, ap_gT, ap_gsN, ap_gsC, ap_app, Res.bind_ok, Res.bind_exc, Res.of_some, exOut_ok, exOut_exc, wipeE, Option.bind_some, List.length_cons, List.length_nil, List.getElem?_cons_zero, List.getElem?_cons_succ, List.set_cons_zero, List.set_cons_succ, List.map_cons, List.map_nil, addD, subD, cmpI, negD, modD, ap_lenL, ap_lenT, intD, int1, int2, walkD, if_true, if_false, decide_eq_true_eq, Bool.false_eq_true, reduceIte, Nat.reduceAdd, Nat.reduceSub, List.replicate_succ, List.replicate_zero, List.cons_append, List.nil_append, gx, d_P0, str_pp, gz, hb', decide_false]
    · simp only [ap_var, ap_c, ap_m1, ap_m2, ap_m3, ap_part, ap_nopart, ap_if, ap_isN, ap_notN, ap_list, ap_tup, ap_nil, ap_cons, ap_cb, ap_m1m, ap_chain, ap_isi, ap_mB, ap_asB, ap_and, ap_or, ap_not, ap_yes, ap_call, ap_lc, ap_noX, ap_iseq, ap_iown, ap_seq, th_nx, th_rt, th_exc, ap_skip, ap_set, ap_asg, ap_aug, ap_lm, ap_put, ap_oif, ap_ret, ap_drop, ap_raise, ap_gN, ap_gT, ap_gsN, ap_gsC, ap_app, Res.bind_ok, Res.bind_exc, Res.of_some, exOut_ok, exOut_exc, wipeE, Option.bind_some, List.length_cons, List.length_nil, List.getElem?_cons_zero, List.getElem?_cons_succ, List.set_cons_zero, List.set_cons_succ, List.map_cons, List.map_nil, addD, subD, cmpI, negD, modD, ap_lenL, ap_lenT, intD, int1, int2, walkD, if_true, if_false, decide_eq_true_eq, Bool.false_eq_true, reduceIte, Nat.reduceAdd, Nat.reduceSub, List.replicate_succ, List.replicate_zero, List.cons_append, List.nil_append, hz2]
  · rintro e ⟨j4, j5, rfl⟩
    refine ⟨_, ?_, rfl⟩
    simp only [ap_var, ap_c, ap_m1, ap_m2, ap_m3, ap_part, ap_nopart, ap_if, ap_isN, ap_notN, ap_list, ap_tup, ap_nil, ap_cons, ap_cb, ap_m1m, ap_chain, ap_isi, ap_mB, ap_asB, ap_and, ap_or, ap_not, ap_yes, ap_call, ap_lc, ap_noX, ap_iseq, ap_iown, ap_seq, th_nx, th_rt, th_exc, ap_skip, ap_set, ap_asg, ap_aug, ap_lm, ap_put, ap_oif, ap_ret, ap_drop, ap_raise, ap_gN, ap_gT, ap_gsN, ap_gsC, ap_app, Res.bind_ok, Res.bind_exc, Res.of_some, exOut_ok, exOut_exc, wipeE, Option.bind_some, List.length_cons, List.length_nil, List.getElem?_cons_zero, List.getElem?_cons_succ, List.set_cons_zero, List.set_cons_succ, List.map_cons, List.map_nil, addD, subD, cmpI, negD, modD, ap_lenL, ap_lenT, intD, int1, int2, walkD, if_true, if_false, decide_eq_true_eq, Bool.false_eq_true, reduceIte, Nat.reduceAdd, Nat.reduceSub, List.replicate_succ, List.replicate_zero, List.cons_append, List.nil_append]
    simp [rng]
end K70

namespace K70
open PySem PySem.Spec L2 DL
theorem cut_to {α : Type} (xs : List α) (a : Nat) : cut xs none (some (a : Int)) = xs.take a := by
  have e : ¬ ((a : Int) < 0) := by omega
  simp only [cut, HT.sIx, if_neg e, List.drop_zero, Int.toNat_natCast, Nat.sub_zero]
  by_cases h : a ≤ xs.length
  · rw [Nat.min_eq_left h]
  · rw [Nat.min_eq_right (by omega), List.take_length, List.take_of_length_le (by omega)]
theorem cut_from {α : Type} (xs : List α) (a : Nat) : cut xs (some (a : Int)) none = xs.drop a := by
  have e : ¬ ((a : Int) < 0) := by omega
  simp only [cut, HT.sIx, if_neg e, Int.toNat_natCast]
  by_cases h : a ≤ xs.length
  · rw [Nat.min_eq_left h, List.take_of_length_le (by simp)]
  · rw [Nat.min_eq_right (by omega), List.drop_of_length_le (Nat.le_refl _), List.drop_of_length_le (by omega)]; simp
theorem sl_to {t : List Nat} {a : Nat} (h : t.length ≤ sizeLine) : slD (.str (txS t)) none (some (a : Int)) = some (.str (txS (t.take a))) := by
  have h' : (txS t).length ≤ sizeLine := by rw [txS_length]; exact h
  show (if (txS t).length ≤ sizeLine then some (PyData.str ⟨(cut (txS t).cps.toList none (some (a : Int))).toArray⟩) else none) = _
  rw [if_pos h', tx_list, cut_to]
  rfl
theorem sl_from {t : List Nat} {a : Nat} (h : t.length ≤ sizeLine) : slD (.str (txS t)) (some (a : Int)) none = some (.str (txS (t.drop a))) := by
  have h' : (txS t).length ≤ sizeLine := by rw [txS_length]; exact h
  show (if (txS t).length ≤ sizeLine then some (PyData.str ⟨(cut (txS t).cps.toList (some (a : Int)) none).toArray⟩) else none) = _
  rw [if_pos h', tx_list, cut_from]
  rfl
theorem lc_ex {v : Nat} {m : Env' → Res D} {env : Env'} (Q : D → Prop) : ∀ {ds : List D}, (∀ d ∈ ds, ∃ y, m (env.set v (some d)) = .ok y ∧ Q y) → ∃ ys, lcG (gN v) bYes m ds env = .ok ys ∧ ys.length = ds.length ∧ ∀ y ∈ ys, Q y
  | [], _ => ⟨[], rfl, rfl, fun _ h => nomatch h⟩
  | d :: ds, h => by
    obtain ⟨y, h1, h2⟩ := h d (by simp)
    obtain ⟨ys, h3, h4, h5⟩ := lc_ex Q (ds := ds) fun z hz => h z (by simp [hz])
    refine ⟨y :: ys, ?_, by simp [h4], ?_⟩
    · simp only [lcG, gN, bYes, noX, Res.bind_ok, if_true, h1]
      rw [h3]
      rfl
    · intro z hz
      rcases List.mem_cons.mp hz with rfl | hz
      · exact h2
      · exact h5 z hz
abbrev AB (t : List Nat) : Prop := ∀ c ∈ t, c = 97 ∨ c = 98
theorem ab_list : ∀ {ys : List D}, (∀ y ∈ ys, ∃ c, (c = 97 ∨ c = 98) ∧ y = .str (txS [c])) → ∃ cs : List Nat, ys = cs.map (fun c => PyData.str (txS [c])) ∧ AB cs
  | [], _ => ⟨[], rfl, fun _ h => nomatch h⟩
  | y :: ys, h => by
    obtain ⟨c, h1, rfl⟩ := h y (by simp)
    obtain ⟨cs, rfl, h3⟩ := ab_list (ys := ys) fun z hz => h z (by simp [hz])
    exact ⟨c :: cs, rfl, fun z hz => by
      rcases List.mem_cons.mp hz with rfl | hz
      · exact h1
      · exact h3 z hz⟩
theorem join_tx : ∀ cs : List Nat, Str.join (txS []) (cs.map fun c => txS [c]) = txS cs
  | [] => rfl
  | [c] => rfl
  | c :: d :: cs => by
    have ih := join_tx (d :: cs)
    simp only [List.map_cons] at ih ⊢
    rw [Str.join, ih, txS_append, txS_append]
    · rfl
    · intro h; cases h
theorem strs_tx : ∀ cs : List Nat, strsOf (cs.map fun c => PyData.str (txS [c])) = some (cs.map fun c => txS [c])
  | [] => rfl
  | c :: cs => by simp [strsOf, strs_tx cs]
theorem joinD_tx {cs : List Nat} (h : cs.length ≤ 1000) : joinD (.str (txS [])) [.list (cs.map fun c => PyData.str (txS [c]))] = some (.str (txS cs)) := by
  have e : ((cs.map fun c => txS [c]).map (·.length)).sum = cs.length := by
    clear h
    induction cs with
    | nil => rfl
    | cons c cs ih => simp [txS_length] at ih ⊢; omega
  show (strsOf _).bind _ = _
  rw [strs_tx, Option.bind_some, if_pos, join_tx]
  rw [e, txS_length]
  simp
  omega
theorem s_empty : (("" : String) : Str) = txS [] := by decide +kernel
theorem s_a : (("a" : String) : Str) = txS [97] := by decide +kernel
theorem s_b : (("b" : String) : Str) = txS [98] := by decide +kernel
theorem s_ab : (("ab" : String) : Str) = txS [97, 98] := by decide +kernel
theorem s_ba : (("ba" : String) : Str) = txS [98, 97] := by decide +kernel
theorem idx_ab {c : Nat} (h : c = 97 ∨ c = 98) : ∃ k : Nat, k < 2 ∧ [97, 98][k]? = some c ∧ indexD (.list [.str (txS [97]), .str (txS [98])]) [.str (txS [c])] = some (.int k) := by
  have sh : SeqAt.shaped (.list [.str (txS [97]), .str (txS [98])]) = true := by decide +kernel
  rcases h with rfl | rfl
  · have s1 : SeqAt.shaped (.str (txS [97])) = true := by decide +kernel
    refine ⟨0, by omega, rfl, ?_⟩
    simp only [indexD, sh, s1, Bool.and_self, if_true, List.findIdx?_cons, PyData.eqv]
    simp
  · have s1 : SeqAt.shaped (.str (txS [98])) = true := by decide +kernel
    have ne : (txS [97] == txS [98]) = false := by decide +kernel
    refine ⟨1, by omega, rfl, ?_⟩
    simp only [indexD, sh, s1, Bool.and_self, if_true, List.findIdx?_cons, PyData.eqv, ne]
    simp
theorem eqv_d (z : Sy) (i j : Nat) : PyData.eqv z.d (.tuple [.str ("pair" : String), .int i, .int j]) = decide (z = .P i j) := by
  cases z with
  | L c =>
    have ne : ((("letter" : String) : Str) == (("pair" : String) : Str)) = false := by decide +kernel
    simp [Sy.d, PyData.eqv, PyData.eqvAll, ne]
  | P a b =>
    have e1 : ((a : Int) == (i : Int)) = decide (a = i) := by
      by_cases h : a = i
      · subst h; simp
      · have : ¬ (a : Int) = i := by omega
        simp [h, this]
    have e2 : ((b : Int) == (j : Int)) = decide (b = j) := by
      by_cases h : b = j
      · subst h; simp
      · have : ¬ (b : Int) = j := by omega
        simp [h, this]
    simp [Sy.d, PyData.eqv, PyData.eqvAll, e1, e2]
theorem any_d (s : List Sy) (i j : Nat) : ((s.map Sy.d).any fun z => PyData.eqv z (.tuple [.str ("pair" : String), .int i, .int j])) = decide (Sy.P i j ∈ s) := by
  induction s with
  | nil => simp
  | cons x s ih =>
    rw [List.map_cons, List.any_cons, ih, eqv_d]
    by_cases h : x = .P i j
    · subst h; simp
    · have : ¬ Sy.P i j = x := fun e => h e.symm
      simp [h, this]
theorem notIn_val {s : List Sy} (w : WF s) (hz : s.length < 1000) {i j : Nat} (hi : i < s.length) (hj : j < s.length) : notInD (.tuple [.str ("pair" : String), .int i, .int j]) (sy s) = some (.bool (!decide (Sy.P i j ∈ s))) := by
  have h1 := (sm_P (i := i) (j := j) (by omega) (by omega)).shaped (by omega)
  have h2 := (sm_sy w hz).shaped (by omega)
  rw [Sy.d] at h1
  simp only [notInD, inB, h1, h2, Bool.and_self, if_true, Option.map_some, any_d]
theorem find_d : ∀ (s : List Sy) (i j : Nat), Sy.P i j ∈ s → ∃ k, s[k]? = some (.P i j) ∧ (s.map Sy.d).findIdx? (fun z => PyData.eqv z (.tuple [.str ("pair" : String), .int i, .int j])) = some k
  | [], _, _, h => nomatch h
  | x :: s, i, j, h => by
    rw [List.map_cons, List.findIdx?_cons, eqv_d]
    by_cases e : x = .P i j
    · subst e; exact ⟨0, rfl, by simp⟩
    · have : Sy.P i j ∈ s := by
        rcases List.mem_cons.mp h with h | h
        · exact absurd h.symm e
        · exact h
      obtain ⟨k, h1, h2⟩ := find_d s i j this
      exact ⟨k + 1, by simpa using h1, by simp [e, h2]⟩
theorem index_ok {s : List Sy} (w : WF s) (hz : s.length < 1000) {i j : Nat} (hi : i < s.length) (hj : j < s.length) (h : Sy.P i j ∈ s) : ∃ k : Nat, s[k]? = some (.P i j) ∧ indexD (sy s) [.tuple [.str ("pair" : String), .int i, .int j]] = some (.int (k : Int)) := by
  obtain ⟨k, h1, h2⟩ := find_d s i j h
  refine ⟨k, h1, ?_⟩
  have g1 := (sm_P (i := i) (j := j) (by omega) (by omega)).shaped (by omega)
  have g2 := (sm_sy w hz).shaped (by omega)
  rw [Sy.d] at g1
  simp only [indexD, g1, g2, Bool.and_self, if_true, h2, Option.map_some]
  rfl
theorem tx_snoc {s : List Sy} {x : Sy} {k : Nat} (h : k < s.length) : tx (s ++ [x]) k = tx s k := by
  unfold tx
  rw [List.getD_eq_getElem?_getD, List.getD_eq_getElem?_getD, txs_pre s [x] k h]
end K70

namespace K70
open PySem PySem.Spec L2 DL
abbrev rw' (r : List Nat) : D := .list (r.map fun (k : Nat) => PyData.int k)
theorem rw_get {r : List Nat} {p k : Nat} (h : r[p]? = some k) : ixD (rw' r) (.int (p : Int)) = some (.int k) := ix_nat (by simp [h])
theorem take_drop2 {α : Type} {r : List α} {p : Nat} {x y : α} (hx : r[p]? = some x) (hy : r[p + 1]? = some y) : r = r.take p ++ x :: y :: r.drop (p + 2) := by
  have h1 : r.drop p = x :: r.drop (p + 1) := by
    have := lt_of_get hx
    rw [List.drop_eq_getElem_cons this]
    rw [List.getElem?_eq_getElem this] at hx
    cases hx; rfl
  have h2 : r.drop (p + 1) = y :: r.drop (p + 2) := by
    have := lt_of_get hy
    rw [List.drop_eq_getElem_cons this]
    rw [List.getElem?_eq_getElem this] at hy
    cases hy; rfl
  rw [← h2, ← h1, List.take_append_drop]
/-- the row's text -/
abbrev rt' (s : List Sy) (r : List Nat) : List Nat := (r.map (tx s)).flatten
def preD (xs : List Int) (n a : Nat) (t : List (List Nat)) : List (Option D) := [some (li xs), some (.int n), some (.str (txS (t.getD 0 []))), some (.int a), some (.list (t.map fun q => .str (txS q)))]
def wbody : Env' → Out := (oSeq (oSet 9 (m2 ixD (mList (aCons (mC (.int 0)) (aCons (m2 subD (mCB lenD (aCons (mVar 8) aNil)) (mC (.int 2))) aNil))) (m2 modD (mCB intD (aCons (mVar 7) aNil)) (mC (.int 2))))) (oSeq (oSet 10 (mTup (aCons (mC (.str "pair")) (aCons (m2 ixD (mVar 8) (mVar 9)) (aCons (m2 ixD (mVar 8) (m2 addD (mVar 9) (mC (.int 1)))) aNil))))) (oSeq (oIf (mB (m2 notInD (mVar 10) (mVar 5))) (oLM 5 lApp (aCons (mVar 10) aNil)) oSkip) (oSeq (oSet 8 (m2 addD (m2 addD (m3 slD (mVar 8) mNoPart (mPart (mVar 9))) (mList (aCons (mM1 isListD indexD (mVar 5) (aCons (mVar 10) aNil)) aNil))) (m3 slD (mVar 8) (mPart (m2 addD (mVar 9) (mC (.int 2)))) mNoPart))) oSkip))))
theorem wstep {e0 e1 e2 e3 e4 e6 j9 j10 j11 : Option D} {s : List Sy} {r : List Nat} {k : Nat} (w : WF s) (hz : s.length < 900) (hr : ∀ q ∈ r, q < s.length) (hl : 2 ≤ r.length) (hl2 : r.length ≤ 1000) :
    ∃ (s' : List Sy) (r' : List Nat) (j9' j10' : Option D), wbody [e0, e1, e2, e3, e4, some (sy s), e6, some (.int k), some (rw' r), j9, j10, j11] = .nx [e0, e1, e2, e3, e4, some (sy s'), e6, some (.int k), some (rw' r'), j9', j10', j11] ∧
      WF s' ∧ s.length ≤ s'.length ∧ s'.length ≤ s.length + 1 ∧ (∀ q ∈ r', q < s'.length) ∧ r'.length + 1 = r.length ∧ rt' s' r' = rt' s r ∧ ∀ q, q < s.length → tx s' q = tx s q := by
  obtain ⟨b, hb, hb2⟩ := mod_nat (k : Int) (n := 2) (by omega)
  rw [show ((2 : Nat) : Int) = 2 from rfl] at hb
  obtain ⟨p, hp, ep⟩ : ∃ p : Nat, p + 1 < r.length ∧ ixD (.list [.int 0, .int ((r.length : Int) - 2)]) (.int (b : Int)) = some (.int p) := by
    match b, hb2 with
    | 0, _ => exact ⟨0, by omega, lx0⟩
    | 1, _ => exact ⟨r.length - 2, by omega, lx1.trans (by rw [show (r.length : Int) - 2 = ((r.length - 2 : Nat) : Int) by omega])⟩
  have hx : r[p]? = some r[p] := List.getElem?_eq_getElem (by omega)
  have hy : r[p + 1]? = some r[p + 1] := List.getElem?_eq_getElem hp
  generalize r[p] = x at hx
  generalize r[p + 1] = y at hy
  have hxs := hr x (List.mem_of_getElem? hx)
  have hys := hr y (List.mem_of_getElem? hy)
  have gx := rw_get hx
  have gy : ixD (rw' r) (.int ((p : Int) + 1)) = some (.int y) := rw_get hy
  have z3 : 3 ≤ sizeLine := sz_ge (by omega)
  have z2 : 2 ≤ sizeLine := sz_ge (by omega)
  have z1 : 1 ≤ sizeLine := sz_ge (by omega)
  have zs : s.length < sizeLine := sz_gt (by omega)
  have p2 : (0 : Int) < 2 := by decide
  let s' := if Sy.P x y ∈ s then s else s ++ [.P x y]
  have hm : Sy.P x y ∈ s' := by
    show Sy.P x y ∈ if Sy.P x y ∈ s then s else s ++ [.P x y]
    by_cases h : Sy.P x y ∈ s
    · rw [if_pos h]; exact h
    · rw [if_neg h]; simp
  have w' : WF s' := by
    show WF (if Sy.P x y ∈ s then s else s ++ [.P x y])
    by_cases h : Sy.P x y ∈ s
    · rw [if_pos h]; exact w
    · rw [if_neg h]; exact w.snoc ⟨hxs, hys⟩
  have l1 : s.length ≤ s'.length ∧ s'.length ≤ s.length + 1 := by
    show s.length ≤ (if Sy.P x y ∈ s then s else s ++ [.P x y]).length ∧ (if Sy.P x y ∈ s then s else s ++ [.P x y]).length ≤ s.length + 1
    by_cases h : Sy.P x y ∈ s
    · rw [if_pos h]; omega
    · rw [if_neg h]; simp
  have tp : ∀ q, q < s.length → tx s' q = tx s q := by
    intro q hq
    show tx (if Sy.P x y ∈ s then s else s ++ [.P x y]) q = _
    by_cases h : Sy.P x y ∈ s
    · rw [if_pos h]
    · rw [if_neg h]; exact tx_snoc hq
  have e5 : (oIf (mB (m2 notInD (mVar 10) (mVar 5))) (oLM 5 lApp (aCons (mVar 10) aNil)) oSkip) [e0, e1, e2, e3, e4, some (sy s), e6, some (.int k), some (rw' r), some (.int p), some (.tuple [.str ("pair" : String), .int x, .int y]), j11] = .nx [e0, e1, e2, e3, e4, some (sy s'), e6, some (.int k), some (rw' r), some (.int p), some (.tuple [.str ("pair" : String), .int x, .int y]), j11] := by
    have hn := notIn_val w (by omega) hxs hys
    show _ = Out.nx [e0, e1, e2, e3, e4, some (sy (if Sy.P x y ∈ s then s else s ++ [.P x y])), e6, some (.int k), some (rw' r), some (.int p), some (.tuple [.str ("pair" : String), .int x, .int y]), j11]
    by_cases h : Sy.P x y ∈ s
    · rw [if_pos h]
      simp only [ap_var, ap_c, ap_m1, ap_m2, ap_m3, ap_part, ap_nopart, ap_if, ap_isN, ap_notN, ap_list, ap_tup, ap_nil, ap_cons, ap_cb, ap_m1m, ap_chain, ap_isi, ap_mB, ap_asB, ap_and, ap_or, ap_not, ap_yes, ap_call, ap_lc, ap_noX, ap_iseq, ap_iown, ap_seq, th_nx, th_rt, th_exc, ap_skip, ap_set, ap_asg, ap_aug, ap_lm, ap_put, ap_oif, ap_ret, ap_drop, ap_raise, ap_gN, ap_gT, ap_gsN, ap_gsC, ap_app, Res.bind_ok, Res.bind_exc, Res.of_some, exOut_ok, exOut_exc, wipeE, Option.bind_some, List.length_cons, List.length_nil, List.getElem?_cons_zero, List.getElem?_cons_succ, List.set_cons_zero, List.set_cons_succ, List.map_cons, List.map_nil, addD, subD, cmpI, negD, modD, ap_lenL, ap_lenT, intD, int1, int2, walkD, if_true, if_false, decide_eq_true_eq, Bool.false_eq_true, reduceIte, Nat.reduceAdd, Nat.reduceSub, List.replicate_succ, List.replicate_zero, List.cons_append, List.nil_append, hn, decide_eq_true h, Bool.not_true]
    · rw [if_neg h]
      simp only [ap_var, ap_c, ap_m1, ap_m2, ap_m3, ap_part, ap_nopart, ap_if, ap_isN, ap_notN, ap_list, ap_tup, ap_nil, ap_cons, ap_cb, ap_m1m, ap_chain, ap_isi, ap_mB, ap_asB, ap_and, ap_or, ap_not, ap_yes, ap_call, ap_lc, ap_noX, ap_iseq, ap_iown, ap_seq, th_nx, th_rt, th_exc, ap_skip, ap_set, ap_asg, ap_aug, ap_lm, ap_put, ap_oif, ap_ret, ap_drop, ap_raise, ap_gN, ap_gT, ap_gsN, ap_gsC, ap_app, Res.bind_ok, Res.bind_exc, Res.of_some, exOut_ok, exOut_exc, wipeE, Option.bind_some, List.length_cons, List.length_nil, List.getElem?_cons_zero, List.getElem?_cons_succ, List.set_cons_zero, List.set_cons_succ, List.map_cons, List.map_nil, addD, subD, cmpI, negD, modD, ap_lenL, ap_lenT, intD, int1, int2, walkD, if_true, if_false, decide_eq_true_eq, Bool.false_eq_true, reduceIte, Nat.reduceAdd, Nat.reduceSub, List.replicate_succ, List.replicate_zero, List.cons_append, List.nil_append, hn, decide_eq_false h, Bool.not_false, List.length_map, zs]
      simp [sy, Sy.d]
  clear_value s'
  obtain ⟨j, hj, ej⟩ := index_ok w' (by omega) (i := x) (j := y) (by omega) (by omega) hm
  have hjs := lt_of_get hj
  have hlen : (r.take p ++ [j] ++ r.drop (p + 2)).length + 1 = r.length := by simp; omega
  refine ⟨s', r.take p ++ [j] ++ r.drop (p + 2), some (.int p), some (.tuple [.str ("pair" : String), .int x, .int y]), ?_, w', l1.1, l1.2, ?_, hlen, ?_, tp⟩
  · refine seq_nx (e := [e0, e1, e2, e3, e4, some (sy s), e6, some (.int k), some (rw' r), some (.int p), j10, j11]) ?_ ?_
    · simp only [ap_var, ap_c, ap_m1, ap_m2, ap_m3, ap_part, ap_nopart, ap_if, ap_isN, ap_notN, ap_list, ap_tup, ap_nil, ap_cons, ap_cb, ap_m1m, ap_chain, ap_isi, ap_mB, ap_asB, ap_and, ap_or, ap_not, ap_yes, ap_call, ap_lc, ap_noX, ap_iseq, ap_iown, ap_seq, th_nx, th_rt, th_exc, ap_skip, ap_set, ap_asg, ap_aug, ap_lm, ap_put, ap_oif, ap_ret, ap_drop, ap_raise, ap_gN, ap_gT, ap_gsN, ap_gsC, ap_app, Res.bind_ok, Res.bind_exc, Res.of_some, exOut_ok, exOut_exc, wipeE, Option.bind_some, List.length_cons, List.length_nil, List.getElem?_cons_zero, List.getElem?_cons_succ, List.set_cons_zero, List.set_cons_succ, List.map_cons, List.map_nil, addD, subD, cmpI, negD, modD, ap_lenL, ap_lenT, intD, int1, int2, walkD, if_true, if_false, decide_eq_true_eq, Bool.false_eq_true, reduceIte, Nat.reduceAdd, Nat.reduceSub, List.replicate_succ, List.replicate_zero, List.cons_append, List.nil_append, List.length_map, z2, p2, hb, ep]
    refine seq_nx (e := [e0, e1, e2, e3, e4, some (sy s), e6, some (.int k), some (rw' r), some (.int p), some (.tuple [.str ("pair" : String), .int x, .int y]), j11]) ?_ ?_
    · simp only [ap_var, ap_c, ap_m1, ap_m2, ap_m3, ap_part, ap_nopart, ap_if, ap_isN, ap_notN, ap_list, ap_tup, ap_nil, ap_cons, ap_cb, ap_m1m, ap_chain, ap_isi, ap_mB, ap_asB, ap_and, ap_or, ap_not, ap_yes, ap_call, ap_lc, ap_noX, ap_iseq, ap_iown, ap_seq, th_nx, th_rt, th_exc, ap_skip, ap_set, ap_asg, ap_aug, ap_lm, ap_put, ap_oif, ap_ret, ap_drop, ap_raise, ap_gN, ap_gT, ap_gsN, ap_gsC, ap_app, Res.bind_ok, Res.bind_exc, Res.of_some, exOut_ok, exOut_exc, wipeE, Option.bind_some, List.length_cons, List.length_nil, List.getElem?_cons_zero, List.getElem?_cons_succ, List.set_cons_zero, List.set_cons_succ, List.map_cons, List.map_nil, addD, subD, cmpI, negD, modD, ap_lenL, ap_lenT, intD, int1, int2, walkD, if_true, if_false, decide_eq_true_eq, Bool.false_eq_true, reduceIte, Nat.reduceAdd, Nat.reduceSub, List.replicate_succ, List.replicate_zero, List.cons_append, List.nil_append, z3, gx, gy]
    refine seq_nx e5 ?_
    have a1 : slD (rw' r) none (some (p : Int)) = some (rw' (r.take p)) := by
      show some (PyData.list (cut (r.map fun (k : Nat) => PyData.int k) none (some (p : Int)))) = _
      rw [cut_to, ← List.map_take]
    have a2 : slD (rw' r) (some ((p : Int) + 2)) none = some (rw' (r.drop (p + 2))) := by
      show some (PyData.list (cut (r.map fun (k : Nat) => PyData.int k) (some ((p + 2 : Nat) : Int)) none)) = _
      rw [cut_from, ← List.map_drop]
    have a3 : addD (rw' (r.take p)) (.list [.int j]) = some (rw' (r.take p ++ [j])) := by
      show (if _ then some (PyData.list _) else none) = _
      rw [if_pos (sz_ge (by simp; omega))]
      simp [rw']
    have a4 : addD (rw' (r.take p ++ [j])) (rw' (r.drop (p + 2))) = some (rw' (r.take p ++ [j] ++ r.drop (p + 2))) := by
      show (if _ then some (PyData.list _) else none) = _
      rw [if_pos (sz_ge (by simp; omega))]
      simp [rw']
    have a5 : isListD (sy s') = true := rfl
    simp only [ap_seq, ap_skip, th_nx, ap_set, ap_m2, ap_m3, ap_nopart, ap_part, ap_list, ap_cons, ap_nil, ap_m1m, ap_var, ap_c, Res.bind_ok, Res.of_some, exOut_ok, List.getElem?_cons_zero, List.getElem?_cons_succ, List.set_cons_zero, List.set_cons_succ, List.length_cons, List.length_nil, Nat.reduceAdd, a1, a5, if_true, ej, z1, a3, show addD (.int (p : Int)) (.int 2) = some (.int ((p : Int) + 2)) from rfl, a2, a4]
  · intro q hq
    simp only [List.mem_append, List.mem_singleton] at hq
    rcases hq with (hq | rfl) | hq
    · have := hr q (List.mem_of_mem_take hq); omega
    · exact hjs
    · have := hr q (List.mem_of_mem_drop hq); omega
  · have e1 : ∀ l : List Nat, (∀ q ∈ l, q < s.length) → l.map (tx s') = l.map (tx s) := fun l h => List.map_congr_left fun q hq => tp q (h q hq)
    have e2 := tx_P w' hj
    rw [tp x hxs, tp y hys] at e2
    have e3 := take_drop2 hx hy
    show ((r.take p ++ [j] ++ r.drop (p + 2)).map (tx s')).flatten = (r.map (tx s)).flatten
    conv => rhs; rw [e3]
    simp only [List.map_append, List.map_cons, List.map_nil, List.flatten_append, List.flatten_cons, List.flatten_nil, List.append_nil]
    rw [e1 (r.take p) (fun q hq => hr q (List.mem_of_mem_take hq)), e1 (r.drop (p + 2)) (fun q hq => hr q (List.mem_of_mem_drop hq)), e2]
    simp only [List.append_assoc]
end K70

namespace K70
open PySem PySem.Spec L2 DL
def sL (t : List Nat) : D := .str (txS t)
def abD : D → D := fun d => match d with
  | .str x => if x = txS [97] then .int 0 else .int 1
  | d => d
theorem abD_97 : abD (.str (txS [97])) = .int 0 := by
  show (if txS [97] = txS [97] then (PyData.int 0 : D) else .int 1) = .int 0
  rw [if_pos rfl]
theorem abD_98 : abD (.str (txS [98])) = .int 1 := by
  show (if txS [98] = txS [97] then (PyData.int 0 : D) else .int 1) = .int 1
  rw [if_neg (by decide +kernel)]
theorem walk_sL (q : List Nat) : walkD (sL q) = .ok (q.map fun c => .str (txS [c])) := walk_tx q
theorem flat_pos {s : List Sy} (w : WF s) : ∀ r : List Nat, (∀ q ∈ r, q < s.length) → r.length ≤ (rt' s r).length
  | [], _ => by simp
  | q :: r, h => by
    have h1 := flat_pos w r fun z hz => h z (by simp [hz])
    have h2 := tx_pos w q q (Nat.le_refl _) (h q (by simp))
    simp only [rt', List.map_cons, List.flatten_cons, List.length_append, List.length_cons] at h1 ⊢
    omega
theorem chains_ok {xs : List Int} (hx : xs.length = 400) : ∃ (s : List Sy) (R : List Nat), m__law_chains [li xs] = .ok (.tuple [sy s, rw' R, .list (R.map fun r => sL (tx s r))]) ∧ WF s ∧ s.length < 200 ∧ R.length ≤ 4 ∧ ∀ r ∈ R, r < s.length ∧ (tx s r).length ≤ 40 := by
  suffices H : ∃ x, o__law_chains [some (li xs), none, none, none, none, none, none, none, none, none, none, none] = x ∧ ∃ (s : List Sy) (R : List Nat), x = .rt (.tuple [sy s, rw' R, .list (R.map fun r => sL (tx s r))]) ∧ WF s ∧ s.length < 200 ∧ R.length ≤ 4 ∧ ∀ r ∈ R, r < s.length ∧ (tx s r).length ≤ 40 by
    obtain ⟨x, h0, s, R, h1, h2⟩ := H
    exact ⟨s, R, run_rt (h0.trans h1), h2⟩
  have x200 : ixD (li xs) (.int 200) = some (.int xs[200]) := ix_li (n := 200) rfl (List.getElem?_eq_getElem (by omega))
  have x201 : ixD (li xs) (.int 201) = some (.int xs[201]) := ix_li (n := 201) rfl (List.getElem?_eq_getElem (by omega))
  generalize xs[200] = u at x200
  generalize xs[201] = u2 at x201
  obtain ⟨n', hn', hn2⟩ := mod_nat u (n := 40) (by omega)
  rw [show ((40 : Nat) : Int) = 40 from rfl] at hn'
  have p40 : (0 : Int) < 40 := by decide
  obtain ⟨n, rfl⟩ : ∃ n, n' = n := ⟨_, rfl⟩
  -- size
  refine seq_ex (e := [some (li xs), some (.int ((1 + n' : Nat) : Int)), none, none, none, none, none, none, none, none, none, none]) ?_ ?_
  · simp only [ap_var, ap_c, ap_m1, ap_m2, ap_m3, ap_part, ap_nopart, ap_if, ap_isN, ap_notN, ap_list, ap_tup, ap_nil, ap_cons, ap_cb, ap_m1m, ap_chain, ap_isi, ap_mB, ap_asB, ap_and, ap_or, ap_not, ap_yes, ap_call, ap_lc, ap_noX, ap_iseq, ap_iown, ap_seq, th_nx, th_rt, th_exc, ap_skip, ap_set, ap_asg, ap_aug, ap_lm, ap_put, ap_oif, ap_ret, ap_drop, ap_raise, ap_gN, ap_gT, ap_gsN, ap_gsC, ap_app, Res.bind_ok, Res.bind_exc, Res.of_some, exOut_ok, exOut_exc, wipeE, Option.bind_some, List.length_cons, List.length_nil, List.getElem?_cons_zero, List.getElem?_cons_succ, List.set_cons_zero, List.set_cons_succ, List.map_cons, List.map_nil, addD, subD, cmpI, negD, modD, ap_lenL, ap_lenT, intD, int1, int2, walkD, if_true, if_false, decide_eq_true_eq, Bool.false_eq_true, reduceIte, Nat.reduceAdd, Nat.reduceSub, List.replicate_succ, List.replicate_zero, List.cons_append, List.nil_append, x200, p40, hn']
    rw [show (1 : Int) + (n' : Int) = ((1 + n' : Nat) : Int) by omega]
  have hN : 0 < 1 + n' ∧ 1 + n' ≤ 40 := by omega
  generalize 1 + n' = N at hN
  -- text
  have hps : (0 : Int) < (N : Int) := by omega
  have z2 : 2 ≤ sizeLine := sz_ge (by omega)
  have z4 : 4 ≤ sizeLine := sz_ge (by omega)
  have z0 : 0 ≤ sizeLine := sz_ge (by omega)
  have p2 : (0 : Int) < 2 := by decide
  obtain ⟨t, ht, hab, e2⟩ : ∃ t : List Nat, t.length = N ∧ AB t ∧ (oSet 2 (mM1 isStrD joinD (mC (.str "")) (aCons (mLc (iRange (aCons (mVar 1) aNil)) (gN 7) bYes (m2 ixD (mC (.str "ab")) (m2 modD (mCB intD (aCons (mCall m__law_drawn (aCons (mVar 0) (aCons (m2 addD (mC (.int 210)) (mVar 7)) aNil))) aNil)) (mC (.int 2)))) [7]) aNil))) [some (li xs), some (.int (N : Int)), none, none, none, none, none, none, none, none, none, none] = .nx [some (li xs), some (.int (N : Int)), some (sL t), none, none, none, none, none, none, none, none, none] := by
    obtain ⟨ys, h1, h2, h3⟩ := lc_ex (v := 7) (m := m2 ixD (mC (.str "ab")) (m2 modD (mCB intD (aCons (mCall m__law_drawn (aCons (mVar 0) (aCons (m2 addD (mC (.int 210)) (mVar 7)) aNil))) aNil)) (mC (.int 2)))) (env := [some (li xs), some (.int (N : Int)), none, none, none, none, none, none, none, none, none, none]) (fun y => ∃ c, (c = 97 ∨ c = 98) ∧ y = .str (txS [c])) (ds := rng 0 N) (by
      intro d hd
      obtain ⟨k, _, rfl⟩ := List.mem_map.mp hd
      obtain ⟨v, _, hv⟩ := drawn_ok (a := 210 + (0 + (k : Int))) (show 0 < xs.length by omega)
      obtain ⟨b, hb, hb2⟩ := mod_nat v (n := 2) (by omega)
      rw [show ((2 : Nat) : Int) = 2 from rfl] at hb
      obtain ⟨c, hc, ec⟩ : ∃ c, (c = 97 ∨ c = 98) ∧ ixD (.str (txS [97, 98])) (.int (b : Int)) = some (.str (txS [c])) := by
        match b, hb2 with
        | 0, _ => exact ⟨97, .inl rfl, ix_str (sz_ge (by decide)) rfl⟩
        | 1, _ => exact ⟨98, .inr rfl, ix_str (sz_ge (by decide)) rfl⟩
      refine ⟨_, ?_, c, hc, rfl⟩
      rw [s_ab]
      simp only [ap_var, ap_c, ap_m1, ap_m2, ap_m3, ap_part, ap_nopart, ap_if, ap_isN, ap_notN, ap_list, ap_tup, ap_nil, ap_cons, ap_cb, ap_m1m, ap_chain, ap_isi, ap_mB, ap_asB, ap_and, ap_or, ap_not, ap_yes, ap_call, ap_lc, ap_noX, ap_iseq, ap_iown, ap_seq, th_nx, th_rt, th_exc, ap_skip, ap_set, ap_asg, ap_aug, ap_lm, ap_put, ap_oif, ap_ret, ap_drop, ap_raise, ap_gN, ap_gT, ap_gsN, ap_gsC, ap_app, Res.bind_ok, Res.bind_exc, Res.of_some, exOut_ok, exOut_exc, wipeE, Option.bind_some, List.length_cons, List.length_nil, List.getElem?_cons_zero, List.getElem?_cons_succ, List.set_cons_zero, List.set_cons_succ, List.map_cons, List.map_nil, addD, subD, cmpI, negD, modD, ap_lenL, ap_lenT, intD, int1, int2, walkD, if_true, if_false, decide_eq_true_eq, Bool.false_eq_true, reduceIte, Nat.reduceAdd, Nat.reduceSub, List.replicate_succ, List.replicate_zero, List.cons_append, List.nil_append, hv, p2, hb, ec])
    obtain ⟨cs, rfl, hcs⟩ := ab_list h3
    have hcl : cs.length = N := by simpa [rng] using h2
    refine ⟨cs, hcl, hcs, ?_⟩
    have hr : iRange (aCons (mVar 1) aNil) [some (li xs), some (.int (N : Int)), none, none, none, none, none, none, none, none, none, none] = .ok (rng 0 N) := by
      refine irange_ok (l := [.int (N : Int)]) ?_ (range1 (by omega))
      simp only [ap_var, ap_c, ap_m1, ap_m2, ap_m3, ap_part, ap_nopart, ap_if, ap_isN, ap_notN, ap_list, ap_tup, ap_nil, ap_cons, ap_cb, ap_m1m, ap_chain, ap_isi, ap_mB, ap_asB, ap_and, ap_or, ap_not, ap_yes, ap_call, ap_lc, ap_noX, ap_iseq, ap_iown, ap_seq, th_nx, th_rt, th_exc, ap_skip, ap_set, ap_asg, ap_aug, ap_lm, ap_put, ap_oif, ap_ret, ap_drop, ap_raise, ap_gN, ap_gT, ap_gsN, ap_gsC, ap_app, Res.bind_ok, Res.bind_exc, Res.of_some, exOut_ok, exOut_exc, wipeE, Option.bind_some, List.length_cons, List.length_nil, List.getElem?_cons_zero, List.getElem?_cons_succ, List.set_cons_zero, List.set_cons_succ, List.map_cons, List.map_nil, addD, subD, cmpI, negD, modD, ap_lenL, ap_lenT, intD, int1, int2, walkD, if_true, if_false, decide_eq_true_eq, Bool.false_eq_true, reduceIte, Nat.reduceAdd, Nat.reduceSub, List.replicate_succ, List.replicate_zero, List.cons_append, List.nil_append]
    have hlc : mLc (iRange (aCons (mVar 1) aNil)) (gN 7) bYes (m2 ixD (mC (.str "ab")) (m2 modD (mCB intD (aCons (mCall m__law_drawn (aCons (mVar 0) (aCons (m2 addD (mC (.int 210)) (mVar 7)) aNil))) aNil)) (mC (.int 2)))) [7] [some (li xs), some (.int (N : Int)), none, none, none, none, none, none, none, none, none, none] = .ok (.list (cs.map fun c => PyData.str (txS [c]))) := by
      rw [ap_lc, hr]
      simp only [wipeE, Res.bind_ok, List.set_cons_zero, List.set_cons_succ]
      rw [h1]
      simp only [ap_noX, Res.bind_ok, List.length_map, hcl, sz_ge (show N ≤ 16777216 by omega), if_true]
    rw [s_empty]
    have hj := joinD_tx (cs := cs) (by omega)
    rw [ap_set, ap_m1m, ap_c]
    simp only [Res.bind_ok, ap_cons, ap_nil, hlc, hj, isStrD, if_true, Res.of_some, exOut_ok, List.set_cons_zero, List.set_cons_succ]
    rfl
  refine seq_ex e2 ?_
  -- at
  obtain ⟨a, ha, ha2⟩ := mod_nat u2 (n := N) (by omega)
  refine seq_ex (e := [some (li xs), some (.int (N : Int)), some (sL t), some (.int a), none, none, none, none, none, none, none, none]) ?_ ?_
  · simp only [ap_var, ap_c, ap_m1, ap_m2, ap_m3, ap_part, ap_nopart, ap_if, ap_isN, ap_notN, ap_list, ap_tup, ap_nil, ap_cons, ap_cb, ap_m1m, ap_chain, ap_isi, ap_mB, ap_asB, ap_and, ap_or, ap_not, ap_yes, ap_call, ap_lc, ap_noX, ap_iseq, ap_iown, ap_seq, th_nx, th_rt, th_exc, ap_skip, ap_set, ap_asg, ap_aug, ap_lm, ap_put, ap_oif, ap_ret, ap_drop, ap_raise, ap_gN, ap_gT, ap_gsN, ap_gsC, ap_app, Res.bind_ok, Res.bind_exc, Res.of_some, exOut_ok, exOut_exc, wipeE, Option.bind_some, List.length_cons, List.length_nil, List.getElem?_cons_zero, List.getElem?_cons_succ, List.set_cons_zero, List.set_cons_succ, List.map_cons, List.map_nil, addD, subD, cmpI, negD, modD, ap_lenL, ap_lenT, intD, int1, int2, walkD, if_true, if_false, decide_eq_true_eq, Bool.false_eq_true, reduceIte, Nat.reduceAdd, Nat.reduceSub, List.replicate_succ, List.replicate_zero, List.cons_append, List.nil_append, x201, hps, ha]
  -- the four texts
  have zt : t.length ≤ sizeLine := sz_ge (by omega)
  have hta : t[a]? = some t[a] := List.getElem?_eq_getElem (by omega)
  have hc := hab t[a] (List.getElem_mem _)
  generalize t[a] = c at hta hc
  obtain ⟨c', hc', ec'⟩ : ∃ c', (c' = 97 ∨ c' = 98) ∧ ∃ b : Bool, eqD (.str (txS [c])) (.str (txS [98])) = some (.bool b) ∧ ixD (.str (txS [98, 97])) (.int (if b = true then 1 else 0)) = some (.str (txS [c'])) := by
    rcases hc with rfl | rfl
    · exact ⟨98, .inr rfl, false, eqs (by decide +kernel), ix_str (n := 0) (sz_ge (by decide)) rfl⟩
    · exact ⟨97, .inl rfl, true, eqs (by decide +kernel), ix_str (n := 1) (sz_ge (by decide)) rfl⟩
  obtain ⟨b, eb, ec'⟩ := ec'
  let T : List (List Nat) := [t, t, t.take a ++ [c'] ++ t.drop (a + 1), t.take a]
  have hT : ∀ q ∈ T, AB q ∧ q.length ≤ 40 := by
    intro q hq
    simp only [T, List.mem_cons, List.not_mem_nil, or_false] at hq
    rcases hq with rfl | rfl | rfl | rfl
    · exact ⟨hab, by omega⟩
    · exact ⟨hab, by omega⟩
    · refine ⟨fun z hz => ?_, by simp; omega⟩
      simp only [List.mem_append, List.mem_singleton] at hz
      rcases hz with (hz | rfl) | hz
      · exact hab z (List.mem_of_mem_take hz)
      · exact hc'
      · exact hab z (List.mem_of_mem_drop hz)
    · exact ⟨fun z hz => hab z (List.mem_of_mem_take hz), by simp; omega⟩
  have hT3 : ∀ k, k < 3 → ∃ q, T[k]? = some q ∧ 0 < q.length := by
    intro k hk
    match k, hk with
    | 0, _ => exact ⟨t, rfl, by omega⟩
    | 1, _ => exact ⟨t, rfl, by omega⟩
    | 2, _ => exact ⟨_, rfl, by simp; omega⟩
  have hT4 : T.length = 4 := rfl
  refine seq_ex (e := [some (li xs), some (.int (N : Int)), some (sL t), some (.int a), some (.list (T.map sL)), none, none, none, none, none, none, none]) ?_ ?_
  · rw [s_b, s_ba]
    have t1 : slD (sL t) none (some (a : Int)) = some (sL (t.take a)) := sl_to zt
    have t2 : slD (sL t) (some ((a : Int) + 1)) none = some (sL (t.drop (a + 1))) := sl_from (a := a + 1) zt
    have t3 : ixD (sL t) (.int (a : Int)) = some (.str (txS [c])) := ix_str zt hta
    have t4 : addD (sL (t.take a)) (.str (txS [c'])) = some (sL (t.take a ++ [c'])) := (add_str (sz_ge (by simp [txS_length]; omega))).trans (by rw [txS_append]; rfl)
    have t5 : addD (sL (t.take a ++ [c'])) (sL (t.drop (a + 1))) = some (sL (t.take a ++ [c'] ++ t.drop (a + 1))) := (add_str (sz_ge (by simp [txS_length]; omega))).trans (by rw [txS_append]; rfl)
    have t6 : addD (.int (a : Int)) (.int 1) = some (.int ((a : Int) + 1)) := rfl
    simp only [ap_set, ap_m2, ap_m3, ap_nopart, ap_part, ap_list, ap_cons, ap_nil, ap_cb, ap_var, ap_c, Res.bind_ok, Res.of_some, exOut_ok, List.getElem?_cons_zero, List.getElem?_cons_succ, List.set_cons_zero, List.set_cons_succ, List.length_cons, List.length_nil, Nat.reduceAdd, if_true, z4, t1, t2, t3, t4, t5, t6, eb, intD, ec']
    rfl
  clear_value T
  -- symbols, roots
  refine seq_ex (e := [some (li xs), some (.int (N : Int)), some (sL t), some (.int a), some (.list (T.map sL)), some (sy [.L 97, .L 98]), none, none, none, none, none, none]) ?_ ?_
  · rw [s_a, s_b]
    simp only [ap_var, ap_c, ap_m1, ap_m2, ap_m3, ap_part, ap_nopart, ap_if, ap_isN, ap_notN, ap_list, ap_tup, ap_nil, ap_cons, ap_cb, ap_m1m, ap_chain, ap_isi, ap_mB, ap_asB, ap_and, ap_or, ap_not, ap_yes, ap_call, ap_lc, ap_noX, ap_iseq, ap_iown, ap_seq, th_nx, th_rt, th_exc, ap_skip, ap_set, ap_asg, ap_aug, ap_lm, ap_put, ap_oif, ap_ret, ap_drop, ap_raise, ap_gN, ap_gT, ap_gsN, ap_gsC, ap_app, Res.bind_ok, Res.bind_exc, Res.of_some, exOut_ok, exOut_exc, wipeE, Option.bind_some, List.length_cons, List.length_nil, List.getElem?_cons_zero, List.getElem?_cons_succ, List.set_cons_zero, List.set_cons_succ, List.map_cons, List.map_nil, addD, subD, cmpI, negD, modD, ap_lenL, ap_lenT, intD, int1, int2, walkD, if_true, if_false, decide_eq_true_eq, Bool.false_eq_true, reduceIte, Nat.reduceAdd, Nat.reduceSub, List.replicate_succ, List.replicate_zero, List.cons_append, List.nil_append, z2]
    rfl
  refine seq_ex (e := [some (li xs), some (.int (N : Int)), some (sL t), some (.int a), some (.list (T.map sL)), some (sy [.L 97, .L 98]), some (rw' []), none, none, none, none, none]) ?_ ?_
  · simp only [ap_var, ap_c, ap_m1, ap_m2, ap_m3, ap_part, ap_nopart, ap_if, ap_isN, ap_notN, ap_list, ap_tup, ap_nil, ap_cons, ap_cb, ap_m1m, ap_chain, ap_isi, ap_mB, ap_asB, ap_and, ap_or, ap_not, ap_yes, ap_call, ap_lc, ap_noX, ap_iseq, ap_iown, ap_seq, th_nx, th_rt, th_exc, ap_skip, ap_set, ap_asg, ap_aug, ap_lm, ap_put, ap_oif, ap_ret, ap_drop, ap_raise, ap_gN, ap_gT, ap_gsN, ap_gsC, ap_app, Res.bind_ok, Res.bind_exc, Res.of_some, exOut_ok, exOut_exc, wipeE, Option.bind_some, List.length_cons, List.length_nil, List.getElem?_cons_zero, List.getElem?_cons_succ, List.set_cons_zero, List.set_cons_succ, List.map_cons, List.map_nil, addD, subD, cmpI, negD, modD, ap_lenL, ap_lenT, intD, int1, int2, walkD, if_true, if_false, decide_eq_true_eq, Bool.false_eq_true, reduceIte, Nat.reduceAdd, Nat.reduceSub, List.replicate_succ, List.replicate_zero, List.cons_append, List.nil_append, z0]
    rfl
  have w0 : WF [.L 97, .L 98] := (WF.nil.snoc (x := .L 97) (by decide)).snoc (x := .L 98) (by decide)
  refine seq_for (fun k e => ∃ (s : List Sy) (R : List Nat) (j7 j8 j9 j10 : Option D), e = [some (li xs), some (.int (N : Int)), some (sL t), some (.int a), some (.list (T.map sL)), some (sy s), some (rw' R), j7, j8, j9, j10, none] ∧ WF s ∧ 2 ≤ s.length ∧ s.length ≤ 2 + 40 * k ∧ tx s 0 = [97] ∧ tx s 1 = [98] ∧ (∀ r ∈ R, r < s.length) ∧ R.map (tx s) = T.take R.length ∧ (R.length = k ∨ (k = 4 ∧ R.length = 3))) (rng 0 4) ?_ ⟨_, [], _, _, _, _, rfl, w0, by simp, by simp, rfl, rfl, (fun _ h => nomatch h), by simp, .inl rfl⟩ ?_ ?_
  · refine irange_ok (l := [.int (4 : Nat)]) ?_ (range1 (by omega))
    simp only [ap_var, ap_c, ap_m1, ap_m2, ap_m3, ap_part, ap_nopart, ap_if, ap_isN, ap_notN, ap_list, ap_tup, ap_nil, ap_cons, ap_cb, ap_m1m, ap_chain, ap_isi, ap_mB, ap_asB, ap_and, ap_or, ap_not, ap_yes, ap_call, ap_lc, ap_noX, ap_iseq, ap_iown, ap_seq, th_nx, th_rt, th_exc, ap_skip, ap_set, ap_asg, ap_aug, ap_lm, ap_put, ap_oif, ap_ret, ap_drop, ap_raise, ap_gN, ap_gT, ap_gsN, ap_gsC, ap_app, Res.bind_ok, Res.bind_exc, Res.of_some, exOut_ok, exOut_exc, wipeE, Option.bind_some, List.length_cons, List.length_nil, List.getElem?_cons_zero, List.getElem?_cons_succ, List.set_cons_zero, List.set_cons_succ, List.map_cons, List.map_nil, addD, subD, cmpI, negD, modD, ap_lenL, ap_lenT, intD, int1, int2, walkD, if_true, if_false, decide_eq_true_eq, Bool.false_eq_true, reduceIte, Nat.reduceAdd, Nat.reduceSub, List.replicate_succ, List.replicate_zero, List.cons_append, List.nil_append]
    rfl
  · rintro k d e hd ⟨s, R, j7, j8, j9, j10, rfl, w, h2, h3, h4, h5, h6, h7, h8⟩
    rw [rng_get] at hd
    split at hd <;> cases hd
    rename_i hk
    rw [Int.zero_add]
    have hRk : R.length = k := by omega
    obtain ⟨q, hq⟩ : ∃ q, T[k]? = some q := ⟨_, List.getElem?_eq_getElem (by omega)⟩
    obtain ⟨hqa, hql⟩ := hT q (List.mem_of_getElem? hq)
    have gq : ixD (.list (T.map sL)) (.int (k : Int)) = some (sL q) := ix_nat (by simp [hq])
    -- the row of letters
    obtain ⟨r0, er0, hr0, hr1⟩ : ∃ r0 : List Nat, (mLc (iSeq (m2 ixD (mVar 4) (mVar 7))) (gN 11) bYes (mM1 isListD indexD (mList (aCons (mC (.str "a")) (aCons (mC (.str "b")) aNil))) (aCons (mVar 11) aNil)) [11]) [some (li xs), some (.int (N : Int)), some (sL t), some (.int a), some (.list (T.map sL)), some (sy s), some (rw' R), some (.int (k : Int)), j8, j9, j10, none] = .ok (rw' r0) ∧ (∀ z ∈ r0, z < s.length) ∧ rt' s r0 = q := by
      rw [s_a, s_b]
      let idx : Nat → Nat := fun c => if c = 97 then 0 else 1
      have hg : ∀ d ∈ q.map (fun c => PyData.str (txS [c])), (mM1 isListD indexD (mList (aCons (mC (.str (txS [97]))) (aCons (mC (.str (txS [98]))) aNil))) (aCons (mVar 11) aNil)) (List.set [some (li xs), some (.int (N : Int)), some (sL t), some (.int a), some (.list (T.map sL)), some (sy s), some (rw' R), some (.int (k : Int)), j8, j9, j10, none] 11 (some d)) = .ok (abD d) := by
        intro d hd
        obtain ⟨c, hc, rfl⟩ := List.mem_map.mp hd
        obtain ⟨i, hi, hi2, hi3⟩ := idx_ab (hqa c hc)
        have hlD : isListD (.list [.str (txS [97]), .str (txS [98])]) = true := rfl
        simp only [ap_m1m, ap_list, ap_cons, ap_nil, ap_c, ap_var, Res.bind_ok, List.length_cons, List.length_nil, Nat.reduceAdd, z2, if_true, List.set_cons_zero, List.set_cons_succ, List.getElem?_cons_zero, List.getElem?_cons_succ, hlD, hi3, Res.of_some]
        rcases hqa c hc with rfl | rfl
        · have : i = 0 := by
            match i, hi with
            | 0, _ => rfl
            | 1, _ => simp at hi2
          subst this
          rw [abD_97]; rfl
        · have : i = 1 := by
            match i, hi with
            | 0, _ => simp at hi2
            | 1, _ => rfl
          subst this
          rw [abD_98]; rfl
      have hlc := lc_all (v := 11) _ hg
      refine ⟨q.map idx, ?_, ?_, ?_⟩
      · simp only [ap_lc, ap_iseq, ap_m2, ap_var, Res.bind_ok, List.getElem?_cons_zero, List.getElem?_cons_succ, gq, Res.of_some, walk_sL, wipeE, List.set_cons_zero, List.set_cons_succ]
        rw [hlc]
        simp only [ap_noX, Res.bind_ok, List.length_map, sz_ge (show q.length ≤ 16777216 by omega), if_true, List.map_map]
        refine congrArg (fun l => Res.ok (PyData.list l)) ?_
        rw [List.map_map]
        apply List.map_congr_left
        intro c hc
        rcases hqa c hc with rfl | rfl
        · simp only [Function.comp_apply, idx, abD_97]
          rfl
        · simp only [Function.comp_apply, idx, abD_98]
          rfl
      · intro z hz
        obtain ⟨c, _, rfl⟩ := List.mem_map.mp hz
        show (if c = 97 then 0 else 1) < s.length
        split <;> omega
      · have : ∀ l : List Nat, AB l → rt' s (l.map idx) = l := by
          intro l
          induction l with
          | nil => intro _; rfl
          | cons c l ih =>
            intro h
            have ih := ih fun z hz => h z (by simp [hz])
            simp only [rt', List.map_cons, List.flatten_cons] at ih ⊢
            rw [ih]
            rcases h c (by simp) with rfl | rfl
            · show tx s 0 ++ l = _; rw [h4]; rfl
            · show tx s 1 ++ l = _; rw [h5]; rfl
        exact this q hqa
    have hr0l : r0.length ≤ 40 := by
      have := flat_pos w r0 hr0
      rw [hr1] at this
      omega
    -- the while
    obtain ⟨s', r', j9', j10', hwl, w', g2, g3, g4, g6⟩ : ∃ (s' : List Sy) (r' : List Nat) (j9' j10' : Option D), wloop (mB (m2 gtI (mCB lenD (aCons (mVar 8) aNil)) (mC (.int 1)))) wbody wfuel [some (li xs), some (.int (N : Int)), some (sL t), some (.int a), some (.list (T.map sL)), some (sy s), some (rw' R), some (.int (k : Int)), some (rw' r0), j9, j10, none] = .nx [some (li xs), some (.int (N : Int)), some (sL t), some (.int a), some (.list (T.map sL)), some (sy s'), some (rw' R), some (.int (k : Int)), some (rw' r'), j9', j10', none] ∧ WF s' ∧ s.length ≤ s'.length ∧ s'.length + r'.length ≤ s.length + r0.length ∧ ((∀ z ∈ r', z < s'.length) ∧ r'.length ≤ 1 ∧ rt' s' r' = q) ∧ ∀ z, z < s.length → tx s' z = tx s z := by
      obtain ⟨e', m, h1, hc, ⟨s', r', j9', j10', rfl, w', g2, g3, g4, g5, g6, g7⟩, _⟩ := wloop_all (nc := mB (m2 gtI (mCB lenD (aCons (mVar 8) aNil)) (mC (.int 1)))) (body := wbody) (fun m e => ∃ (s' : List Sy) (r' : List Nat) (j9' j10' : Option D), e = [some (li xs), some (.int (N : Int)), some (sL t), some (.int a), some (.list (T.map sL)), some (sy s'), some (rw' R), some (.int (k : Int)), some (rw' r'), j9', j10', none] ∧ WF s' ∧ s.length ≤ s'.length ∧ s'.length + r'.length ≤ s.length + r0.length ∧ (∀ z ∈ r', z < s'.length) ∧ rt' s' r' = q ∧ (∀ z, z < s.length → tx s' z = tx s z) ∧ m = r'.length) (by
        rintro m e ⟨s', r', j9', j10', rfl, w', g2, g3, g4, g5, g6, rfl⟩
        have hnc : (mB (m2 gtI (mCB lenD (aCons (mVar 8) aNil)) (mC (.int 1)))) [some (li xs), some (.int (N : Int)), some (sL t), some (.int a), some (.list (T.map sL)), some (sy s'), some (rw' R), some (.int (k : Int)), some (rw' r'), j9', j10', none] = .ok (decide ((1 : Int) < (r'.length : Int))) := by
          simp only [ap_var, ap_c, ap_m1, ap_m2, ap_m3, ap_part, ap_nopart, ap_if, ap_isN, ap_notN, ap_list, ap_tup, ap_nil, ap_cons, ap_cb, ap_m1m, ap_chain, ap_isi, ap_mB, ap_asB, ap_and, ap_or, ap_not, ap_yes, ap_call, ap_lc, ap_noX, ap_iseq, ap_iown, ap_seq, th_nx, th_rt, th_exc, ap_skip, ap_set, ap_asg, ap_aug, ap_lm, ap_put, ap_oif, ap_ret, ap_drop, ap_raise, ap_gN, ap_gT, ap_gsN, ap_gsC, ap_app, Res.bind_ok, Res.bind_exc, Res.of_some, exOut_ok, exOut_exc, wipeE, Option.bind_some, List.length_cons, List.length_nil, List.getElem?_cons_zero, List.getElem?_cons_succ, List.set_cons_zero, List.set_cons_succ, List.map_cons, List.map_nil, addD, subD, cmpI, negD, modD, ap_lenL, ap_lenT, intD, int1, int2, walkD, if_true, if_false, decide_eq_true_eq, Bool.false_eq_true, reduceIte, Nat.reduceAdd, Nat.reduceSub, List.replicate_succ, List.replicate_zero, List.cons_append, List.nil_append, List.length_map]
        by_cases hl : 2 ≤ r'.length
        · refine .inr ⟨by rw [hnc, decide_eq_true (by omega)], ?_⟩
          obtain ⟨s2, r2, i9, i10, k1, k2, k3, k4, k5, k6, k7, k8⟩ := wstep (e0 := some (li xs)) (e1 := some (.int (N : Int))) (e2 := some (sL t)) (e3 := some (.int a)) (e4 := some (.list (T.map sL))) (e6 := some (rw' R)) (j9 := j9') (j10 := j10') (j11 := none) (k := k) w' (by omega) g4 hl (by omega)
          exact ⟨_, r2.length, k1, by omega, s2, r2, i9, i10, rfl, k2, by omega, by omega, k5, k7.trans g5, (fun z hz => (k8 z (by omega)).trans (g6 z hz)), rfl⟩
        · exact .inl (by rw [hnc, decide_eq_false (by omega)])) r0.length wfuel _ (by show r0.length < 1000000000; omega) ⟨s, r0, j9, j10, rfl, w, Nat.le_refl _, Nat.le_refl _, hr0, hr1, (fun _ _ => rfl), rfl⟩
      refine ⟨s', r', j9', j10', h1, w', g2, g3, ⟨g4, ?_, g5⟩, g6⟩
      simp only [ap_var, ap_c, ap_m1, ap_m2, ap_m3, ap_part, ap_nopart, ap_if, ap_isN, ap_notN, ap_list, ap_tup, ap_nil, ap_cons, ap_cb, ap_m1m, ap_chain, ap_isi, ap_mB, ap_asB, ap_and, ap_or, ap_not, ap_yes, ap_call, ap_lc, ap_noX, ap_iseq, ap_iown, ap_seq, th_nx, th_rt, th_exc, ap_skip, ap_set, ap_asg, ap_aug, ap_lm, ap_put, ap_oif, ap_ret, ap_drop, ap_raise, ap_gN, ap_gT, ap_gsN, ap_gsC, ap_app, Res.bind_ok, Res.bind_exc, Res.of_some, exOut_ok, exOut_exc, wipeE, Option.bind_some, List.length_cons, List.length_nil, List.getElem?_cons_zero, List.getElem?_cons_succ, List.set_cons_zero, List.set_cons_succ, List.map_cons, List.map_nil, addD, subD, cmpI, negD, modD, ap_lenL, ap_lenT, intD, int1, int2, walkD, if_true, if_false, decide_eq_true_eq, Bool.false_eq_true, reduceIte, Nat.reduceAdd, Nat.reduceSub, List.replicate_succ, List.replicate_zero, List.cons_append, List.nil_append, List.length_map] at hc
      have : ¬ (1 : Int) < (r'.length : Int) := by
        intro h
        rw [decide_eq_true h] at hc
        cases hc
      omega
    obtain ⟨g4, g7, g8⟩ := g4
    have hmap : R.map (tx s') = T.take R.length := by
      rw [← h7]
      exact List.map_congr_left fun z hz => g6 z (h6 z hz)
    refine ⟨_, [some (li xs), some (.int (N : Int)), some (sL t), some (.int a), some (.list (T.map sL)), some (sy s'), some (rw' (R ++ r')), some (.int (k : Int)), some (rw' r'), j9', j10', none], rfl, ?_, s', R ++ r', _, _, _, _, rfl, w', by omega, by omega, (g6 0 (by omega)).trans h4, (g6 1 (by omega)).trans h5, ?_, ?_, ?_⟩
    · refine seq_nx (e := [some (li xs), some (.int (N : Int)), some (sL t), some (.int a), some (.list (T.map sL)), some (sy s), some (rw' R), some (.int (k : Int)), some (rw' r0), j9, j10, none]) ?_ ?_
      · rw [ap_set]
        refine Eq.trans (congrArg (fun r => exOut r _ _) er0) ?_
        simp only [exOut_ok, List.set_cons_zero, List.set_cons_succ]
      refine seq_nx hwl ?_
      have ha : addD (rw' R) (rw' r') = some (rw' (R ++ r')) := by
        refine (show addD (rw' R) (rw' r') = if (R.map fun (k : Nat) => PyData.int k).length + (r'.map fun (k : Nat) => PyData.int k).length ≤ sizeLine then some (PyData.list ((R.map fun (k : Nat) => PyData.int k) ++ (r'.map fun (k : Nat) => PyData.int k))) else none from rfl).trans ?_
        rw [if_pos (sz_ge (by simp; omega))]
        simp [rw']
      simp only [ap_seq, ap_skip, th_nx, ap_set, ap_m2, ap_var, Res.bind_ok, Res.of_some, exOut_ok, List.getElem?_cons_zero, List.getElem?_cons_succ, List.set_cons_zero, List.set_cons_succ, ha]
    · intro z hz
      rcases List.mem_append.mp hz with hz | hz
      · have := h6 z hz; omega
      · exact g4 z hz
    · match r', g7, g8 with
      | [], _, _ => simpa using hmap
      | [z], _, g8 =>
        rw [List.map_append, hmap, List.length_append]
        rw [show R.length + [z].length = R.length + 1 from rfl, take_snoc (by rw [hRk]; exact hq)]
        have hz : tx s' z = q := by simpa [rt'] using g8
        rw [List.map_cons, List.map_nil, hz]
    · match r', g7, g8 with
      | [], _, g8 =>
        by_cases h3 : k < 3
        · obtain ⟨q', hq', hpos⟩ := hT3 k h3
          rw [hq] at hq'
          cases hq'
          simp [rt'] at g8
          subst g8
          simp at hpos
        · right
          simp; omega
      | [z], _, _ => left; simp [hRk]
  · rintro e ⟨s, R, j7, j8, j9, j10, rfl, w, h2, h3, h4, h5, h6, h7, h8⟩
    have hrl : (rng 0 4).length = 4 := by simp [rng]
    rw [hrl] at h3 h8
    refine ⟨_, ?_, s, R, rfl, w, by omega, by omega, ?_⟩
    · have a1 : slD (.list (T.map sL)) none (some (R.length : Int)) = some (.list (R.map fun r => sL (tx s r))) := by
        show some (PyData.list (cut (T.map sL) none (some (R.length : Int)))) = _
        rw [cut_to, ← List.map_take, ← h7, List.map_map]
        rfl
      have z3 : 3 ≤ sizeLine := sz_ge (by omega)
      simp only [ap_var, ap_c, ap_m1, ap_m2, ap_m3, ap_part, ap_nopart, ap_if, ap_isN, ap_notN, ap_list, ap_tup, ap_nil, ap_cons, ap_cb, ap_m1m, ap_chain, ap_isi, ap_mB, ap_asB, ap_and, ap_or, ap_not, ap_yes, ap_call, ap_lc, ap_noX, ap_iseq, ap_iown, ap_seq, th_nx, th_rt, th_exc, ap_skip, ap_set, ap_asg, ap_aug, ap_lm, ap_put, ap_oif, ap_ret, ap_drop, ap_raise, ap_gN, ap_gT, ap_gsN, ap_gsC, ap_app, Res.bind_ok, Res.bind_exc, Res.of_some, exOut_ok, exOut_exc, wipeE, Option.bind_some, List.length_cons, List.length_nil, List.getElem?_cons_zero, List.getElem?_cons_succ, List.set_cons_zero, List.set_cons_succ, List.map_cons, List.map_nil, addD, subD, cmpI, negD, modD, ap_lenL, ap_lenT, intD, int1, int2, walkD, if_true, if_false, decide_eq_true_eq, Bool.false_eq_true, reduceIte, Nat.reduceAdd, Nat.reduceSub, List.replicate_succ, List.replicate_zero, List.cons_append, List.nil_append, List.length_map, a1, z3]
    · intro r hr
      refine ⟨h6 r hr, ?_⟩
      have : tx s r ∈ T.take R.length := by rw [← h7]; exact List.mem_map_of_mem hr
      exact (hT _ (List.mem_of_mem_take this)).2
end K70

namespace K70
open PySem PySem.Spec L2 DL
theorem sm_due {xs ys : List Nat} (hx : xs.length ≤ 4000) : Sm 200 1 (dueD xs ys) := by
  unfold dueD
  split
  · rename_i k hk
    have hk := List.mem_of_find?_eq_some hk
    rw [List.mem_range] at hk
    exact (Sm.int (by omega)).mono (by omega) (by omega)
  · split
    · exact Sm.none.mono (by omega) (by omega)
    · exact (Sm.int (by omega)).mono (by omega) (by omega)
theorem sm_long {n : Nat} (h : n < 10000000000000) : Sm 200 1 (.tuple [.str ("long" : String), .int n]) := by
  have : ∀ d ∈ [PyData.str ("long" : String), PyData.int n], Sm 64 0 d := by
    intro d hd
    simp at hd
    rcases hd with rfl | rfl
    · exact (Sm.str (x := ("long" : String)) (by decide +kernel)).mono (show ("long" : Str).length ≤ 64 by decide +kernel) (by omega)
    · exact Sm.int h
  exact (Sm.tuple this).mono (by simp) (by omega)
theorem tx_pow {s : List Sy} (w : WF s) : ∀ (n k : Nat), k ≤ n → k < s.length → (tx s k).length ≤ 2 ^ k := by
  intro n
  induction n with
  | zero =>
    intro k hn hk
    cases h : s[k] with
    | L c => rw [tx_L (by rw [List.getElem?_eq_getElem hk, h])]; exact Nat.one_le_two_pow
    | P i j => have := w.pair k i j (by rw [List.getElem?_eq_getElem hk, h]); omega
  | succ n ih =>
    intro k hn hk
    cases h : s[k] with
    | L c => rw [tx_L (by rw [List.getElem?_eq_getElem hk, h])]; exact Nat.one_le_two_pow
    | P i j =>
      have e : s[k]? = some (.P i j) := by rw [List.getElem?_eq_getElem hk, h]
      have hp := w.pair k i j e
      rw [tx_P w e, List.length_append]
      have h1 := ih i (by omega) (by omega)
      have h2 := ih j (by omega) (by omega)
      have p1 : 2 ^ i ≤ 2 ^ (k - 1) := Nat.pow_le_pow_right (by omega) (by omega)
      have p2 : 2 ^ j ≤ 2 ^ (k - 1) := Nat.pow_le_pow_right (by omega) (by omega)
      have p3 : 2 ^ k = 2 ^ (k - 1) * 2 := by rw [← Nat.pow_succ]; congr 1; omega
      omega
theorem tx_44 {s : List Sy} (w : WF s) (hz : s.length ≤ 44) {k : Nat} (hk : k < s.length) : (tx s k).length < 10000000000000 := by
  have h1 := tx_pow w k k (Nat.le_refl _) hk
  have h2 : 2 ^ k ≤ 2 ^ 43 := Nat.pow_le_pow_right (by omega) (by omega)
  have h3 : (2 : Nat) ^ 43 = 8796093022208 := by decide
  omega
/-- the difference of two symbols that are there -/
theorem told_in {s : List Sy} {i j : Nat} (hi : i < s.length) (hj : j < s.length) : toldD s i j = if 4000 < (tx s i).length then .tuple [.str ("long" : String), .int (tx s i).length] else if 4000 < (tx s j).length then .tuple [.str ("long" : String), .int (tx s j).length] else dueD (tx s i) (tx s j) := by
  have ha : 0 ≤ (i : Int) ∧ (i : Int) < s.length := by omega
  have hb : 0 ≤ (j : Int) ∧ (j : Int) < s.length := by omega
  have ne : ¬ (("TooLong" : String) : Str) = ("OutOfRange" : String) := by decide +kernel
  unfold toldD fdR
  rw [if_neg (not_not_intro ha), if_neg (not_not_intro hb), Int.toNat_natCast, Int.toNat_natCast]
  by_cases la : 4000 < (tx s i).length
  · rw [if_pos la, if_pos la]
    simp only [ne, if_false]
  · rw [if_neg la, if_neg la]
    by_cases lb : 4000 < (tx s j).length
    · rw [if_pos lb, if_pos lb]
      simp only [ne, if_false]
    · rw [if_neg lb, if_neg lb]
def oTurn : Env' → Out := (oSeq (oSet 20 (mLc (iSeq (mList (aCons (mVar 18) (aCons (mVar 19) aNil)))) (gN 22) (mB (m2 gtI (m2 ixD (mVar 5) (mVar 22)) (mC (.int 4000)))) (m2 ixD (mVar 5) (mVar 22)) [22])) (oSeq (oSet 13 (mTup (aCons (mC (.str "long")) (aCons (m2 ixD (m2 addD (mVar 20) (mList (aCons (mC (.int 0)) aNil))) (mC (.int 0))) aNil)))) (oSeq (oIf (mB (m2 eqD (mVar 20) (mList aNil))) (oSet 13 (mCall m__law_due (aCons (m2 ixD (mVar 6) (mVar 18)) (aCons (m2 ixD (mVar 6) (mVar 19)) aNil)))) oSkip) (oSeq (oIf (mB (m2 neD (mCB reprD (aCons (mCall m__law_told (aCons (mVar 3) (aCons (mVar 18) (aCons (mVar 19) aNil)))) aNil)) (mCB reprD (aCons (mVar 13) aNil)))) (oRet (mC (.bool false))) oSkip) oSkip))))
theorem addL {x y : List D} (h : x.length + y.length ≤ sizeLine) : addD (.list x) (.list y) = some (.list (x ++ y)) := if_pos h
theorem ne_same {x : Str} : neD (.str x) (.str x) = some (.bool false) := nes (b := true) (decide_eq_true rfl)
theorem turn_ok {e0 e1 e2 e4 e7 e8 e9 e10 e11 e12 e13 e14 e15 e16 e17 e20 e21 : Option D} {s : List Sy} {R : D} {i j : Nat} (w : WF s) (hz : s.length ≤ 44) (hi : i < s.length) (hj : j < s.length) :
    ∃ d13 d20, oTurn [e0, e1, e2, some (.tuple [sy s, R]), e4, some (szl s), some (tl s), e7, e8, e9, e10, e11, e12, e13, e14, e15, e16, e17, some (.int i), some (.int j), e20, e21, none] = .nx [e0, e1, e2, some (.tuple [sy s, R]), e4, some (szl s), some (tl s), e7, e8, e9, e10, e11, e12, some d13, e14, e15, e16, e17, some (.int i), some (.int j), some d20, e21, none] := by
  have z2 : 2 ≤ sizeLine := sz_ge (by omega)
  have z1 : 1 ≤ sizeLine := sz_ge (by omega)
  have z0 : 0 ≤ sizeLine := sz_ge (by omega)
  have g1 := szl_get hi
  have g2 := szl_get hj
  have t1 := tl_get hi
  have t2 := tl_get hj
  have ht := told_ok w (by omega) R i j
  have ii := told_in hi hj
  have b1 := tx_44 w hz hi
  have b2 := tx_44 w hz hj
  -- the tests of what is long
  have key : ∀ L : List D, L.length ≤ 2 → (∀ d ∈ L, Sm 64 0 d) → ∀ due : D, (L = [] → m__law_due [tD (tx s i), tD (tx s j)] = .ok due ∧ due = toldD s i j) → (∀ d r, L = d :: r → .tuple [.str ("long" : String), d] = toldD s i j) → Sm 200 1 (toldD s i j) →
      (mLc (iSeq (mList (aCons (mVar 18) (aCons (mVar 19) aNil)))) (gN 22) (mB (m2 gtI (m2 ixD (mVar 5) (mVar 22)) (mC (.int 4000)))) (m2 ixD (mVar 5) (mVar 22)) [22]) [e0, e1, e2, some (.tuple [sy s, R]), e4, some (szl s), some (tl s), e7, e8, e9, e10, e11, e12, e13, e14, e15, e16, e17, some (.int i), some (.int j), e20, e21, none] = .ok (.list L) →
      oTurn [e0, e1, e2, some (.tuple [sy s, R]), e4, some (szl s), some (tl s), e7, e8, e9, e10, e11, e12, e13, e14, e15, e16, e17, some (.int i), some (.int j), e20, e21, none] = .nx [e0, e1, e2, some (.tuple [sy s, R]), e4, some (szl s), some (tl s), e7, e8, e9, e10, e11, e12, some (toldD s i j), e14, e15, e16, e17, some (.int i), some (.int j), some (.list L), e21, none] := by
    intro L hL hS due h1 h2 h3 hm
    have r1 := h3.repr (by omega) (by omega)
    have sh0 : SeqAt.shaped (.list []) = true := (Sm.list (w := 0) (dp := 0) (ds := []) (fun _ h => nomatch h)).shaped (by omega)
    have shL : SeqAt.shaped (.list L) = true := (Sm.list hS).shaped (by omega)
    refine seq_nx (e := [e0, e1, e2, some (.tuple [sy s, R]), e4, some (szl s), some (tl s), e7, e8, e9, e10, e11, e12, e13, e14, e15, e16, e17, some (.int i), some (.int j), some (.list L), e21, none]) ?_ ?_
    · rw [ap_set]
      refine Eq.trans (congrArg (fun r => exOut r _ _) hm) ?_
      simp only [exOut_ok, List.set_cons_zero, List.set_cons_succ]
    cases L with
    | nil =>
      obtain ⟨k1, k2⟩ := h1 rfl
      have a1 : addD (.list []) (.list [.int 0]) = some (.list [.int 0]) := addL (sz_ge (by decide))
      have a2 : ixD (.list [.int 0]) (.int 0) = some (.int 0) := ix_nat (n := 0) rfl
      have q1 : eqD (.list []) (.list []) = some (.bool true) := by
        simp only [eqD, eqB, sh0, Bool.and_self, if_true, Option.map_some, PyData.eqv, PyData.eqvAll]
      refine seq_nx (e := [e0, e1, e2, some (.tuple [sy s, R]), e4, some (szl s), some (tl s), e7, e8, e9, e10, e11, e12, some (.tuple [.str ("long" : String), .int 0]), e14, e15, e16, e17, some (.int i), some (.int j), some (.list []), e21, none]) ?_ ?_
      · simp only [ap_set, ap_tup, ap_list, ap_cons, ap_nil, ap_c, ap_m2, ap_var, Res.bind_ok, Res.of_some, exOut_ok, List.getElem?_cons_zero, List.getElem?_cons_succ, List.set_cons_zero, List.set_cons_succ, List.length_cons, List.length_nil, Nat.reduceAdd, z1, z2, if_true, a1, a2]
      refine seq_nx (e := [e0, e1, e2, some (.tuple [sy s, R]), e4, some (szl s), some (tl s), e7, e8, e9, e10, e11, e12, some (toldD s i j), e14, e15, e16, e17, some (.int i), some (.int j), some (.list []), e21, none]) ?_ ?_
      · rw [← k2]
        simp only [ap_var, ap_c, ap_m1, ap_m2, ap_m3, ap_part, ap_nopart, ap_if, ap_isN, ap_notN, ap_list, ap_tup, ap_nil, ap_cons, ap_cb, ap_m1m, ap_chain, ap_isi, ap_mB, ap_asB, ap_and, ap_or, ap_not, ap_yes, ap_call, ap_lc, ap_noX, ap_iseq, ap_iown, ap_seq, th_nx, th_rt, th_exc, ap_skip, ap_set, ap_asg, ap_aug, ap_lm, ap_put, ap_oif, ap_ret, ap_drop, ap_raise, ap_gN, ap_gT, ap_gsN, ap_gsC, ap_app, Res.bind_ok, Res.bind_exc, Res.of_some, exOut_ok, exOut_exc, wipeE, Option.bind_some, List.length_cons, List.length_nil, List.getElem?_cons_zero, List.getElem?_cons_succ, List.set_cons_zero, List.set_cons_succ, List.map_cons, List.map_nil, addD, subD, cmpI, negD, modD, ap_lenL, ap_lenT, intD, int1, int2, walkD, if_true, if_false, decide_eq_true_eq, Bool.false_eq_true, reduceIte, Nat.reduceAdd, Nat.reduceSub, List.replicate_succ, List.replicate_zero, List.cons_append, List.nil_append, z0, q1, t1, t2, k1]
      simp only [ap_var, ap_c, ap_m1, ap_m2, ap_m3, ap_part, ap_nopart, ap_if, ap_isN, ap_notN, ap_list, ap_tup, ap_nil, ap_cons, ap_cb, ap_m1m, ap_chain, ap_isi, ap_mB, ap_asB, ap_and, ap_or, ap_not, ap_yes, ap_call, ap_lc, ap_noX, ap_iseq, ap_iown, ap_seq, th_nx, th_rt, th_exc, ap_skip, ap_set, ap_asg, ap_aug, ap_lm, ap_put, ap_oif, ap_ret, ap_drop, ap_raise, ap_gN, ap_gT, ap_gsN, ap_gsC, ap_app, Res.bind_ok, Res.bind_exc, Res.of_some, exOut_ok, exOut_exc, wipeE, Option.bind_some, List.length_cons, List.length_nil, List.getElem?_cons_zero, List.getElem?_cons_succ, List.set_cons_zero, List.set_cons_succ, List.map_cons, List.map_nil, addD, subD, cmpI, negD, modD, ap_lenL, ap_lenT, intD, int1, int2, walkD, if_true, if_false, decide_eq_true_eq, Bool.false_eq_true, reduceIte, Nat.reduceAdd, Nat.reduceSub, List.replicate_succ, List.replicate_zero, List.cons_append, List.nil_append, ht, r1, ne_same]
    | cons d r =>
      have k2 := h2 d r rfl
      have a1 : addD (.list (d :: r)) (.list [.int 0]) = some (.list (d :: (r ++ [.int 0]))) := addL (sz_ge (by simp at hL ⊢; omega))
      have a2 : ixD (.list (d :: (r ++ [.int 0]))) (.int 0) = some d := ix_nat (n := 0) rfl
      have q1 : eqD (.list (d :: r)) (.list []) = some (.bool false) := by
        simp only [eqD, eqB, sh0, shL, Bool.and_self, if_true, Option.map_some, PyData.eqv, PyData.eqvAll]
      refine seq_nx (e := [e0, e1, e2, some (.tuple [sy s, R]), e4, some (szl s), some (tl s), e7, e8, e9, e10, e11, e12, some (.tuple [.str ("long" : String), d]), e14, e15, e16, e17, some (.int i), some (.int j), some (.list (d :: r)), e21, none]) ?_ ?_
      · simp only [ap_set, ap_tup, ap_list, ap_cons, ap_nil, ap_c, ap_m2, ap_var, Res.bind_ok, Res.of_some, exOut_ok, List.getElem?_cons_zero, List.getElem?_cons_succ, List.set_cons_zero, List.set_cons_succ, List.length_cons, List.length_nil, Nat.reduceAdd, z1, z2, if_true, a1, a2]
      rw [k2]
      simp only [ap_var, ap_c, ap_m1, ap_m2, ap_m3, ap_part, ap_nopart, ap_if, ap_isN, ap_notN, ap_list, ap_tup, ap_nil, ap_cons, ap_cb, ap_m1m, ap_chain, ap_isi, ap_mB, ap_asB, ap_and, ap_or, ap_not, ap_yes, ap_call, ap_lc, ap_noX, ap_iseq, ap_iown, ap_seq, th_nx, th_rt, th_exc, ap_skip, ap_set, ap_asg, ap_aug, ap_lm, ap_put, ap_oif, ap_ret, ap_drop, ap_raise, ap_gN, ap_gT, ap_gsN, ap_gsC, ap_app, Res.bind_ok, Res.bind_exc, Res.of_some, exOut_ok, exOut_exc, wipeE, Option.bind_some, List.length_cons, List.length_nil, List.getElem?_cons_zero, List.getElem?_cons_succ, List.set_cons_zero, List.set_cons_succ, List.map_cons, List.map_nil, addD, subD, cmpI, negD, modD, ap_lenL, ap_lenT, intD, int1, int2, walkD, if_true, if_false, decide_eq_true_eq, Bool.false_eq_true, reduceIte, Nat.reduceAdd, Nat.reduceSub, List.replicate_succ, List.replicate_zero, List.cons_append, List.nil_append, z0, q1, ht, r1, ne_same]
  have hlc : ∀ (p : D → Bool) (g : D → D), (∀ d ∈ [PyData.int i, PyData.int j], (mB (m2 gtI (m2 ixD (mVar 5) (mVar 22)) (mC (.int 4000)))) [e0, e1, e2, some (.tuple [sy s, R]), e4, some (szl s), some (tl s), e7, e8, e9, e10, e11, e12, e13, e14, e15, e16, e17, some (.int i), some (.int j), e20, e21, some d] = .ok (p d) ∧ (p d = true → (m2 ixD (mVar 5) (mVar 22)) [e0, e1, e2, some (.tuple [sy s, R]), e4, some (szl s), some (tl s), e7, e8, e9, e10, e11, e12, e13, e14, e15, e16, e17, some (.int i), some (.int j), e20, e21, some d] = .ok (g d))) → True := fun _ _ _ => trivial
  have n1 : ∀ k : Nat, k < s.length → (mB (m2 gtI (m2 ixD (mVar 5) (mVar 22)) (mC (.int 4000)))) [e0, e1, e2, some (.tuple [sy s, R]), e4, some (szl s), some (tl s), e7, e8, e9, e10, e11, e12, e13, e14, e15, e16, e17, some (.int i), some (.int j), e20, e21, some (.int k)] = .ok (decide (4000 < (tx s k).length)) := by
    intro k hk
    have g := szl_get hk
    have e : (decide ((4000 : Int) < ((tx s k).length : Int))) = decide (4000 < (tx s k).length) := by
      by_cases h : 4000 < (tx s k).length
      · rw [decide_eq_true h, decide_eq_true (by omega)]
      · rw [decide_eq_false h, decide_eq_false (by omega)]
    simp only [ap_var, ap_c, ap_m1, ap_m2, ap_m3, ap_part, ap_nopart, ap_if, ap_isN, ap_notN, ap_list, ap_tup, ap_nil, ap_cons, ap_cb, ap_m1m, ap_chain, ap_isi, ap_mB, ap_asB, ap_and, ap_or, ap_not, ap_yes, ap_call, ap_lc, ap_noX, ap_iseq, ap_iown, ap_seq, th_nx, th_rt, th_exc, ap_skip, ap_set, ap_asg, ap_aug, ap_lm, ap_put, ap_oif, ap_ret, ap_drop, ap_raise, ap_gN, ap_gT, ap_gsN, ap_gsC, ap_app, Res.bind_ok, Res.bind_exc, Res.of_some, exOut_ok, exOut_exc, wipeE, Option.bind_some, List.length_cons, List.length_nil, List.getElem?_cons_zero, List.getElem?_cons_succ, List.set_cons_zero, List.set_cons_succ, List.map_cons, List.map_nil, addD, subD, cmpI, negD, modD, ap_lenL, ap_lenT, intD, int1, int2, walkD, if_true, if_false, decide_eq_true_eq, Bool.false_eq_true, reduceIte, Nat.reduceAdd, Nat.reduceSub, List.replicate_succ, List.replicate_zero, List.cons_append, List.nil_append, g, e]
  have n2 : ∀ k : Nat, k < s.length → (m2 ixD (mVar 5) (mVar 22)) [e0, e1, e2, some (.tuple [sy s, R]), e4, some (szl s), some (tl s), e7, e8, e9, e10, e11, e12, e13, e14, e15, e16, e17, some (.int i), some (.int j), e20, e21, some (.int k)] = .ok (.int (tx s k).length) := by
    intro k hk
    have g := szl_get hk
    simp only [ap_var, ap_c, ap_m1, ap_m2, ap_m3, ap_part, ap_nopart, ap_if, ap_isN, ap_notN, ap_list, ap_tup, ap_nil, ap_cons, ap_cb, ap_m1m, ap_chain, ap_isi, ap_mB, ap_asB, ap_and, ap_or, ap_not, ap_yes, ap_call, ap_lc, ap_noX, ap_iseq, ap_iown, ap_seq, th_nx, th_rt, th_exc, ap_skip, ap_set, ap_asg, ap_aug, ap_lm, ap_put, ap_oif, ap_ret, ap_drop, ap_raise, ap_gN, ap_gT, ap_gsN, ap_gsC, ap_app, Res.bind_ok, Res.bind_exc, Res.of_some, exOut_ok, exOut_exc, wipeE, Option.bind_some, List.length_cons, List.length_nil, List.getElem?_cons_zero, List.getElem?_cons_succ, List.set_cons_zero, List.set_cons_succ, List.map_cons, List.map_nil, addD, subD, cmpI, negD, modD, ap_lenL, ap_lenT, intD, int1, int2, walkD, if_true, if_false, decide_eq_true_eq, Bool.false_eq_true, reduceIte, Nat.reduceAdd, Nat.reduceSub, List.replicate_succ, List.replicate_zero, List.cons_append, List.nil_append, g]
  have hdue : (tx s i).length ≤ 4000 → (tx s j).length ≤ 4000 → m__law_due [tD (tx s i), tD (tx s j)] = .ok (dueD (tx s i) (tx s j)) := by
    intro h1 h2
    rw [tD, if_pos h1, tD, if_pos h2]
    exact due_ok h1 h2
  by_cases la : 4000 < (tx s i).length
  · rw [if_pos la] at ii
    have hs : Sm 200 1 (toldD s i j) := by rw [ii]; exact sm_long b1
    by_cases lb : 4000 < (tx s j).length
    · refine ⟨_, _, key [.int (tx s i).length, .int (tx s j).length] (by simp) ?_ .none (fun h => nomatch h) (fun d r h => by cases h; exact ii.symm) hs ?_⟩
      · intro d hd
        simp at hd
        rcases hd with rfl | rfl
        · exact Sm.int b1
        · exact Sm.int b2
      · simp only [ap_lc, ap_iseq, ap_list, ap_cons, ap_nil, ap_var, Res.bind_ok, List.getElem?_cons_zero, List.getElem?_cons_succ, List.set_cons_zero, List.set_cons_succ, List.length_cons, List.length_nil, Nat.reduceAdd, if_true, if_false, Bool.false_eq_true, walkD, wipeE, lcG, ap_gN, ap_noX, z2, z1, z0, n1 i hi, n1 j hj, n2 i hi, n2 j hj, decide_eq_true la, decide_eq_true lb]
    · refine ⟨_, _, key [.int (tx s i).length] (by simp) ?_ .none (fun h => nomatch h) (fun d r h => by cases h; exact ii.symm) hs ?_⟩
      · intro d hd
        simp at hd
        subst hd
        exact Sm.int b1
      · simp only [ap_lc, ap_iseq, ap_list, ap_cons, ap_nil, ap_var, Res.bind_ok, List.getElem?_cons_zero, List.getElem?_cons_succ, List.set_cons_zero, List.set_cons_succ, List.length_cons, List.length_nil, Nat.reduceAdd, if_true, if_false, Bool.false_eq_true, walkD, wipeE, lcG, ap_gN, ap_noX, z2, z1, z0, n1 i hi, n1 j hj, n2 i hi, n2 j hj, decide_eq_true la, decide_eq_false lb]
  · rw [if_neg la] at ii
    by_cases lb : 4000 < (tx s j).length
    · rw [if_pos lb] at ii
      have hs : Sm 200 1 (toldD s i j) := by rw [ii]; exact sm_long b2
      refine ⟨_, _, key [.int (tx s j).length] (by simp) ?_ .none (fun h => nomatch h) (fun d r h => by cases h; exact ii.symm) hs ?_⟩
      · intro d hd
        simp at hd
        subst hd
        exact Sm.int b2
      · simp only [ap_lc, ap_iseq, ap_list, ap_cons, ap_nil, ap_var, Res.bind_ok, List.getElem?_cons_zero, List.getElem?_cons_succ, List.set_cons_zero, List.set_cons_succ, List.length_cons, List.length_nil, Nat.reduceAdd, if_true, if_false, Bool.false_eq_true, walkD, wipeE, lcG, ap_gN, ap_noX, z2, z1, z0, n1 i hi, n1 j hj, n2 i hi, n2 j hj, decide_eq_false la, decide_eq_true lb]
    · rw [if_neg lb] at ii
      have hs : Sm 200 1 (toldD s i j) := by rw [ii]; exact sm_due (by omega)
      refine ⟨_, _, key [] (by simp) (fun _ h => nomatch h) _ (fun _ => ⟨hdue (by omega) (by omega), ii.symm⟩) (fun d r h => nomatch h) hs ?_⟩
      simp only [ap_lc, ap_iseq, ap_list, ap_cons, ap_nil, ap_var, Res.bind_ok, List.getElem?_cons_zero, List.getElem?_cons_succ, List.set_cons_zero, List.set_cons_succ, List.length_cons, List.length_nil, Nat.reduceAdd, if_true, if_false, Bool.false_eq_true, walkD, wipeE, lcG, ap_gN, ap_noX, z2, z1, z0, n1 i hi, n1 j hj, n2 i hi, n2 j hj, decide_eq_false la, decide_eq_false lb]
end K70

namespace K70
open PySem PySem.Spec L2 DL
theorem loop_one {f : D → Env' → Option Env'} {body : Env' → Out} {d : D} {ds : List D} {env e1 e2 : Env'} {r : Out} (h1 : f d env = some e1) (h2 : body e1 = .nx e2) (h3 : loop f body ds e2 = r) : loop f body (d :: ds) env = r := by
  unfold loop
  rw [h1]
  simp only [h2]
  exact h3
/-! ### the great house -/
def gg : List Nat → List Sy → Nat → List Sy × Nat
  | [], g, h => (g, h)
  | b :: bs, g, h => if b = 1 then gg bs (g ++ [.P h h] ++ [.P g.length 0]) (g.length + 1) else gg bs (g ++ [.P h h]) g.length
def oGreat : Env' → Out := (oSeq (oLM 8 lApp (aCons (mTup (aCons (mC (.str "pair")) (aCons (mVar 9) (aCons (mVar 9) aNil)))) aNil)) (oSeq (oSet 9 (m2 subD (mCB lenD (aCons (mVar 8) aNil)) (mC (.int 1)))) (oSeq (oIf (mB (m2 eqD (mVar 10) (mC (.int 1)))) (oSeq (oLM 8 lApp (aCons (mTup (aCons (mC (.str "pair")) (aCons (mVar 9) (aCons (mC (.int 0)) aNil)))) aNil)) (oSet 9 (m2 subD (mCB lenD (aCons (mVar 8) aNil)) (mC (.int 1))))) oSkip) oSkip)))
theorem great_loop {e0 e1 e2 e3 e4 e5 e6 e7 e11 e12 e13 e14 e15 e16 e17 e18 e19 e20 e21 e22 : Option D} : ∀ (bits : List Nat) (g : List Sy) (h : Nat) (j10 : Option D), g.length + 2 * bits.length ≤ 100 →
    ∃ j, loop (gN 10) oGreat (bits.map fun (b : Nat) => PyData.int b) [e0, e1, e2, e3, e4, e5, e6, e7, some (sy g), some (.int h), j10, e11, e12, e13, e14, e15, e16, e17, e18, e19, e20, e21, e22]
      = .nx [e0, e1, e2, e3, e4, e5, e6, e7, some (sy (gg bits g h).1), some (.int (gg bits g h).2), j, e11, e12, e13, e14, e15, e16, e17, e18, e19, e20, e21, e22]
  | [], g, h, j10, _ => ⟨j10, rfl⟩
  | b :: bs, g, h, j10, hl => by
    have z3 : 3 ≤ sizeLine := sz_ge (by omega)
    simp only [List.length_cons] at hl
    have za : g.length < sizeLine := sz_gt (by omega)
    have zb : (g ++ [Sy.P h h]).length < sizeLine := sz_gt (by simp; omega)
    have ea : ∀ (g : List Sy) (i j : Nat), PyData.list (g.map Sy.d ++ [.tuple [.str ("pair" : String), .int i, .int j]]) = sy (g ++ [.P i j]) := by intro g i j; simp [sy, Sy.d]
    have el : ∀ (g : List Sy) (x : Sy), ((g ++ [x]).length : Int) - 1 = (g.length : Int) := by intro g x; simp
    have e0' : PyData.int 0 = PyData.int ((0 : Nat) : Int) := rfl
    have s1 : ∀ o, oSeq (oLM 8 lApp (aCons (mTup (aCons (mC (.str "pair")) (aCons (mVar 9) (aCons (mVar 9) aNil)))) aNil)) (oSeq (oSet 9 (m2 subD (mCB lenD (aCons (mVar 8) aNil)) (mC (.int 1)))) o) [e0, e1, e2, e3, e4, e5, e6, e7, some (sy g), some (.int h), some (.int (b : Nat)), e11, e12, e13, e14, e15, e16, e17, e18, e19, e20, e21, e22]
        = o [e0, e1, e2, e3, e4, e5, e6, e7, some (sy (g ++ [.P h h])), some (.int (g.length : Nat)), some (.int (b : Nat)), e11, e12, e13, e14, e15, e16, e17, e18, e19, e20, e21, e22] := by
      intro o
      simp only [ap_var, ap_c, ap_m1, ap_m2, ap_m3, ap_part, ap_nopart, ap_if, ap_isN, ap_notN, ap_list, ap_tup, ap_nil, ap_cons, ap_cb, ap_m1m, ap_chain, ap_isi, ap_mB, ap_asB, ap_and, ap_or, ap_not, ap_yes, ap_call, ap_lc, ap_noX, ap_iseq, ap_iown, ap_seq, th_nx, th_rt, th_exc, ap_skip, ap_set, ap_asg, ap_aug, ap_lm, ap_put, ap_oif, ap_ret, ap_drop, ap_raise, ap_gN, ap_gT, ap_gsN, ap_gsC, ap_app, Res.bind_ok, Res.bind_exc, Res.of_some, exOut_ok, exOut_exc, wipeE, Option.bind_some, List.length_cons, List.length_nil, List.getElem?_cons_zero, List.getElem?_cons_succ, List.set_cons_zero, List.set_cons_succ, List.map_cons, List.map_nil, addD, subD, cmpI, negD, modD, ap_lenL, ap_lenT, intD, int1, int2, walkD, if_true, if_false, decide_eq_true_eq, Bool.false_eq_true, reduceIte, Nat.reduceAdd, Nat.reduceSub, List.replicate_succ, List.replicate_zero, List.cons_append, List.nil_append, z3, List.length_map, za, ea, el]
    by_cases hb : b = 1
    · obtain ⟨j, hj⟩ := great_loop (e0 := e0) (e1 := e1) (e2 := e2) (e3 := e3) (e4 := e4) (e5 := e5) (e6 := e6) (e7 := e7) (e11 := e11) (e12 := e12) (e13 := e13) (e14 := e14) (e15 := e15) (e16 := e16) (e17 := e17) (e18 := e18) (e19 := e19) (e20 := e20) (e21 := e21) (e22 := e22) bs (g ++ [.P h h] ++ [.P g.length 0]) (g.length + 1) (some (.int (b : Nat))) (by simp; omega)
      refine ⟨j, loop_one rfl (e2 := [e0, e1, e2, e3, e4, e5, e6, e7, some (sy (g ++ [.P h h] ++ [.P g.length 0])), some (.int (g.length + 1 : Nat)), some (.int (b : Nat)), e11, e12, e13, e14, e15, e16, e17, e18, e19, e20, e21, e22]) ?_ (by rw [gg, if_pos hb]; exact hj)⟩
      show oGreat [e0, e1, e2, e3, e4, e5, e6, e7, some (sy g), some (.int h), some (.int (b : Nat)), e11, e12, e13, e14, e15, e16, e17, e18, e19, e20, e21, e22] = _
      rw [oGreat, s1]
      subst hb
      have q1 : eqD (.int ((1 : Nat) : Int)) (.int 1) = some (.bool true) := eqi (decide_eq_true rfl)
      have el2 : ((g ++ [Sy.P h h]).length : Int) = ((g.length + 1 : Nat) : Int) := by simp
      rw [e0']
      simp only [ap_var, ap_c, ap_m1, ap_m2, ap_m3, ap_part, ap_nopart, ap_if, ap_isN, ap_notN, ap_list, ap_tup, ap_nil, ap_cons, ap_cb, ap_m1m, ap_chain, ap_isi, ap_mB, ap_asB, ap_and, ap_or, ap_not, ap_yes, ap_call, ap_lc, ap_noX, ap_iseq, ap_iown, ap_seq, th_nx, th_rt, th_exc, ap_skip, ap_set, ap_asg, ap_aug, ap_lm, ap_put, ap_oif, ap_ret, ap_drop, ap_raise, ap_gN, ap_gT, ap_gsN, ap_gsC, ap_app, Res.bind_ok, Res.bind_exc, Res.of_some, exOut_ok, exOut_exc, wipeE, Option.bind_some, List.length_cons, List.length_nil, List.getElem?_cons_zero, List.getElem?_cons_succ, List.set_cons_zero, List.set_cons_succ, List.map_cons, List.map_nil, addD, subD, cmpI, negD, modD, ap_lenL, ap_lenT, intD, int1, int2, walkD, if_true, if_false, decide_eq_true_eq, Bool.false_eq_true, reduceIte, Nat.reduceAdd, Nat.reduceSub, List.replicate_succ, List.replicate_zero, List.cons_append, List.nil_append, z3, List.length_map, zb, ea, el, q1, el2]
    · obtain ⟨j, hj⟩ := great_loop (e0 := e0) (e1 := e1) (e2 := e2) (e3 := e3) (e4 := e4) (e5 := e5) (e6 := e6) (e7 := e7) (e11 := e11) (e12 := e12) (e13 := e13) (e14 := e14) (e15 := e15) (e16 := e16) (e17 := e17) (e18 := e18) (e19 := e19) (e20 := e20) (e21 := e21) (e22 := e22) bs (g ++ [.P h h]) g.length (some (.int (b : Nat))) (by simp; omega)
      refine ⟨j, loop_one rfl (e2 := [e0, e1, e2, e3, e4, e5, e6, e7, some (sy (g ++ [.P h h])), some (.int (g.length : Nat)), some (.int (b : Nat)), e11, e12, e13, e14, e15, e16, e17, e18, e19, e20, e21, e22]) ?_ (by rw [gg, if_neg hb]; exact hj)⟩
      show oGreat [e0, e1, e2, e3, e4, e5, e6, e7, some (sy g), some (.int h), some (.int (b : Nat)), e11, e12, e13, e14, e15, e16, e17, e18, e19, e20, e21, e22] = _
      rw [oGreat, s1]
      have q1 : eqD (.int (b : Int)) (.int 1) = some (.bool false) := eqi (decide_eq_false (by omega))
      simp only [ap_var, ap_c, ap_m1, ap_m2, ap_m3, ap_part, ap_nopart, ap_if, ap_isN, ap_notN, ap_list, ap_tup, ap_nil, ap_cons, ap_cb, ap_m1m, ap_chain, ap_isi, ap_mB, ap_asB, ap_and, ap_or, ap_not, ap_yes, ap_call, ap_lc, ap_noX, ap_iseq, ap_iown, ap_seq, th_nx, th_rt, th_exc, ap_skip, ap_set, ap_asg, ap_aug, ap_lm, ap_put, ap_oif, ap_ret, ap_drop, ap_raise, ap_gN, ap_gT, ap_gsN, ap_gsC, ap_app, Res.bind_ok, Res.bind_exc, Res.of_some, exOut_ok, exOut_exc, wipeE, Option.bind_some, List.length_cons, List.length_nil, List.getElem?_cons_zero, List.getElem?_cons_succ, List.set_cons_zero, List.set_cons_succ, List.map_cons, List.map_nil, addD, subD, cmpI, negD, modD, ap_lenL, ap_lenT, intD, int1, int2, walkD, if_true, if_false, decide_eq_true_eq, Bool.false_eq_true, reduceIte, Nat.reduceAdd, Nat.reduceSub, List.replicate_succ, List.replicate_zero, List.cons_append, List.nil_append, q1]
def gr : List Sy := [.L 97, .P 0 0, .P 1 0, .P 2 2, .P 3 0, .P 4 4, .P 5 0, .P 6 6, .P 7 0, .P 8 8, .P 9 9, .P 10 0, .P 11 11, .P 12 12, .P 13 13, .P 14 14, .P 15 15, .P 16 0]
theorem gg_gr : gg [1, 1, 1, 1, 0, 1, 0, 0, 0, 0, 1] [.L 97] 0 = (gr, 17) := rfl
theorem wf_gr : WF gr := ((((((((((((((((((WF.nil.snoc (x := .L 97) (by decide)).snoc (x := .P 0 0) (by decide)).snoc (x := .P 1 0) (by decide)).snoc (x := .P 2 2) (by decide)).snoc (x := .P 3 0) (by decide)).snoc (x := .P 4 4) (by decide)).snoc (x := .P 5 0) (by decide)).snoc (x := .P 6 6) (by decide)).snoc (x := .P 7 0) (by decide)).snoc (x := .P 8 8) (by decide)).snoc (x := .P 9 9) (by decide)).snoc (x := .P 10 0) (by decide)).snoc (x := .P 11 11) (by decide)).snoc (x := .P 12 12) (by decide)).snoc (x := .P 13 13) (by decide)).snoc (x := .P 14 14) (by decide)).snoc (x := .P 15 15) (by decide)).snoc (x := .P 16 0) (by decide))
theorem rep_P {k i j n m : Nat} (h : gr[k]? = some (.P i j)) (hi : tx gr i = List.replicate n 97) (hj : tx gr j = List.replicate m 97) : tx gr k = List.replicate (n + m) 97 := by
  rw [tx_P wf_gr h, hi, hj, List.replicate_append_replicate]
theorem tg0 : tx gr 0 = List.replicate 1 97 := tx_L rfl
theorem tg1 : tx gr 1 = List.replicate 2 97 := rep_P rfl tg0 tg0
theorem tg2 : tx gr 2 = List.replicate 3 97 := rep_P rfl tg1 tg0
theorem tg3 : tx gr 3 = List.replicate 6 97 := rep_P rfl tg2 tg2
theorem tg4 : tx gr 4 = List.replicate 7 97 := rep_P rfl tg3 tg0
theorem tg5 : tx gr 5 = List.replicate 14 97 := rep_P rfl tg4 tg4
theorem tg6 : tx gr 6 = List.replicate 15 97 := rep_P rfl tg5 tg0
theorem tg7 : tx gr 7 = List.replicate 30 97 := rep_P rfl tg6 tg6
theorem tg8 : tx gr 8 = List.replicate 31 97 := rep_P rfl tg7 tg0
theorem tg9 : tx gr 9 = List.replicate 62 97 := rep_P rfl tg8 tg8
theorem tg10 : tx gr 10 = List.replicate 124 97 := rep_P rfl tg9 tg9
theorem tg11 : tx gr 11 = List.replicate 125 97 := rep_P rfl tg10 tg0
theorem tg12 : tx gr 12 = List.replicate 250 97 := rep_P (n := 125) (m := 125) rfl tg11 tg11
theorem tg13 : tx gr 13 = List.replicate 500 97 := rep_P (n := 250) (m := 250) rfl tg12 tg12
theorem tg14 : tx gr 14 = List.replicate 1000 97 := rep_P (n := 500) (m := 500) rfl tg13 tg13
theorem tg15 : tx gr 15 = List.replicate 2000 97 := rep_P (n := 1000) (m := 1000) rfl tg14 tg14
theorem tg16 : tx gr 16 = List.replicate 4000 97 := rep_P (n := 2000) (m := 2000) rfl tg15 tg15
theorem tg17 : tx gr 17 = List.replicate 4001 97 := rep_P (n := 4000) (m := 1) rfl tg16 tg0
theorem due_rep {a b c : Nat} : dueD (List.replicate a c) (List.replicate b c) = if a = b then .none else .int (min a b : Nat) := by
  have : (List.range (min (List.replicate a c).length (List.replicate b c).length)).find? (dk (List.replicate a c) (List.replicate b c)) = none := by
    rw [List.find?_eq_none]
    intro k hk
    rw [List.mem_range, List.length_replicate, List.length_replicate] at hk
    unfold dk
    rw [List.getElem?_replicate, if_pos (by omega), List.getElem?_replicate, if_pos (by omega)]
    simp
  rw [dueD, this, List.length_replicate, List.length_replicate]
theorem great1 : toldD gr ((16 : Nat) : Int) ((16 : Nat) : Int) = .none := by
  rw [told_in (by decide) (by decide), tg16, List.length_replicate, if_neg (by omega), if_neg (by omega), due_rep, if_pos rfl]
theorem great2 : toldD gr ((16 : Nat) : Int) ((17 : Nat) : Int) = .tuple [.str ("long" : String), .int 4001] := by
  rw [told_in (by decide) (by decide), tg16, tg17, List.length_replicate, List.length_replicate, if_neg (by omega), if_pos (by omega)]
  rfl
theorem great3 : toldD gr ((17 : Nat) : Int) ((16 : Nat) : Int) = .tuple [.str ("long" : String), .int 4001] := by
  rw [told_in (by decide) (by decide), tg16, tg17, List.length_replicate, List.length_replicate, if_pos (by omega)]
  rfl
theorem great4 : toldD gr ((16 : Nat) : Int) ((15 : Nat) : Int) = .int 2000 := by
  rw [told_in (by decide) (by decide), tg16, tg15, List.length_replicate, List.length_replicate, if_neg (by omega), if_neg (by omega), due_rep, if_neg (by omega)]
  rfl
end K70

namespace K70
open PySem PySem.Spec L2 DL
abbrev rg (k : Int) : D := .tuple [.str ("range" : String), .int k]
theorem ne_rg (k : Int) : neD (rg k) (rg k) = some (.bool false) := by
  have ok : PyData.strOk ("range" : Str) = true := by decide +kernel
  have c : PyData.canLay0 (rg k) = true := by simp [PyData.canLay0, PyData.canLayAll0, ok]
  have d : PyData.depth (rg k) ≤ 64 := by simp [PyData.depth, PyData.depthAll]
  have s : SeqAt.shaped (rg k) = true := by simp only [SeqAt.shaped, c, Bool.true_and, decide_eq_true_eq]; exact d
  have e := PySem.SeqAt.eqv_refl (rg k) c
  simp only [neD, eqB, s, Bool.and_self, if_true, e, Option.map_some, Bool.not_true]
theorem told_out1 {s : List Sy} {a b : Int} (h : ¬ (0 ≤ a ∧ a < s.length)) : toldD s a b = rg a := by
  unfold toldD fdR
  rw [if_pos h]
  simp only [if_true]
theorem told_out2 {s : List Sy} {a b : Int} (ha : 0 ≤ a ∧ a < s.length) (h : ¬ (0 ≤ b ∧ b < s.length)) : toldD s a b = rg b := by
  unfold toldD fdR
  rw [if_neg (not_not_intro ha), if_pos h]
  simp only [if_true]
theorem sL_get {s : List Sy} {R : List Nat} {p r : Nat} (h : R[p]? = some r) : ixD (.list (R.map fun r => sL (tx s r))) (.int (p : Int)) = some (sL (tx s r)) := ix_nat (by simp [h])
theorem last_ok {e0 e1 e2 e3 e4 e5 e6 e7 e10 e14 e15 e16 e17 e18 e19 e20 e21 e22 : Option D} {G H a b t : D} {x : Str} (ht : m__law_told [.tuple [G, .list [H]], a, b] = .ok t) (hr : reprD [t] = some (.str x)) :
    (oSeq (oIf (mB (m2 neD (mCB reprD (aCons (mCall m__law_told (aCons (mTup (aCons (mVar 8) (aCons (mList (aCons (mVar 9) aNil)) aNil))) (aCons (mVar 11) (aCons (mVar 12) aNil)))) aNil)) (mCB reprD (aCons (mVar 13) aNil)))) (oRet (mC (.bool false))) oSkip) oSkip) [e0, e1, e2, e3, e4, e5, e6, e7, some G, some H, e10, some a, some b, some t, e14, e15, e16, e17, e18, e19, e20, e21, e22] = .nx [e0, e1, e2, e3, e4, e5, e6, e7, some G, some H, e10, some a, some b, some t, e14, e15, e16, e17, e18, e19, e20, e21, e22] := by
  have z1 : 1 ≤ sizeLine := sz_ge (by omega)
  have z2 : 2 ≤ sizeLine := sz_ge (by omega)
  simp only [ap_var, ap_c, ap_m1, ap_m2, ap_m3, ap_part, ap_nopart, ap_if, ap_isN, ap_notN, ap_list, ap_tup, ap_nil, ap_cons, ap_cb, ap_m1m, ap_chain, ap_isi, ap_mB, ap_asB, ap_and, ap_or, ap_not, ap_yes, ap_call, ap_lc, ap_noX, ap_iseq, ap_iown, ap_seq, th_nx, th_rt, th_exc, ap_skip, ap_set, ap_asg, ap_aug, ap_lm, ap_put, ap_oif, ap_ret, ap_drop, ap_raise, ap_gN, ap_gT, ap_gsN, ap_gsC, ap_app, Res.bind_ok, Res.bind_exc, Res.of_some, exOut_ok, exOut_exc, wipeE, Option.bind_some, List.length_cons, List.length_nil, List.getElem?_cons_zero, List.getElem?_cons_succ, List.set_cons_zero, List.set_cons_succ, List.map_cons, List.map_nil, addD, subD, cmpI, negD, modD, ap_lenL, ap_lenT, intD, int1, int2, walkD, if_true, if_false, decide_eq_true_eq, Bool.false_eq_true, reduceIte, Nat.reduceAdd, Nat.reduceSub, List.replicate_succ, List.replicate_zero, List.cons_append, List.nil_append, z1, z2, ht, hr, ne_same]
theorem oif_true {nc : Env' → Res Bool} {o1 o2 : Env' → Out} {env : Env'} {r : Out} (h : nc env = .ok true) (h2 : o1 env = r) : oIf nc o1 o2 env = r := by
  rw [ap_oif, h, ← h2]
  rfl
theorem math : ∀ ns : List Int, ns.length ≤ 63 → runD .pl n_law.length o_law [.list (ns.map .int)] = .ok (.bool true) := by
  intro ns hns
  suffices H : ∃ x, o_law [some (li ns), none, none, none, none, none, none, none, none, none, none, none, none, none, none, none, none, none, none, none, none, none, none] = x ∧ x = .rt (.bool true) by
    obtain ⟨x, h1, rfl⟩ := H
    exact run_rt h1
  have z1 : 1 ≤ sizeLine := sz_ge (by omega)
  have z2 : 2 ≤ sizeLine := sz_ge (by omega)
  have z3 : 3 ≤ sizeLine := sz_ge (by omega)
  have z4 : 4 ≤ sizeLine := sz_ge (by omega)
  have p2 : (0 : Int) < 2 := by decide
  obtain ⟨xs, hx, hxl, _⟩ := numbers_ok ns hns
  refine seq_ex (e := [some (li ns), some (li xs), none, none, none, none, none, none, none, none, none, none, none, none, none, none, none, none, none, none, none, none, none]) ?_ ?_
  · simp only [ap_var, ap_c, ap_m1, ap_m2, ap_m3, ap_part, ap_nopart, ap_if, ap_isN, ap_notN, ap_list, ap_tup, ap_nil, ap_cons, ap_cb, ap_m1m, ap_chain, ap_isi, ap_mB, ap_asB, ap_and, ap_or, ap_not, ap_yes, ap_call, ap_lc, ap_noX, ap_iseq, ap_iown, ap_seq, th_nx, th_rt, th_exc, ap_skip, ap_set, ap_asg, ap_aug, ap_lm, ap_put, ap_oif, ap_ret, ap_drop, ap_raise, ap_gN, ap_gT, ap_gsN, ap_gsC, ap_app, Res.bind_ok, Res.bind_exc, Res.of_some, exOut_ok, exOut_exc, wipeE, Option.bind_some, List.length_cons, List.length_nil, List.getElem?_cons_zero, List.getElem?_cons_succ, List.set_cons_zero, List.set_cons_succ, List.map_cons, List.map_nil, addD, subD, cmpI, negD, modD, ap_lenL, ap_lenT, intD, int1, int2, walkD, if_true, if_false, decide_eq_true_eq, Bool.false_eq_true, reduceIte, Nat.reduceAdd, Nat.reduceSub, List.replicate_succ, List.replicate_zero, List.cons_append, List.nil_append, hx]
  have x0 : ixD (li xs) (.int 0) = some (.int xs[0]) := ix_li (n := 0) rfl (List.getElem?_eq_getElem (by omega))
  generalize xs[0] = u at x0
  obtain ⟨b, hb, hb2⟩ := mod_nat u (n := 2) (by omega)
  rw [show ((2 : Nat) : Int) = 2 from rfl] at hb
  obtain ⟨most, hm, em⟩ : ∃ most : Int, (0 ≤ most ∧ most ≤ 40) ∧ ixD (.list [.int 14, .int 40]) (.int (b : Int)) = some (.int most) := by
    match b, hb2 with
    | 0, _ => exact ⟨14, by omega, lx0⟩
    | 1, _ => exact ⟨40, by omega, lx1⟩
  obtain ⟨s, hs, w, hs0, hs44⟩ := symbols_ok (xs := xs) (by omega) (at' := 10) hm
  obtain ⟨rs, hr, hr9, hrS⟩ := roots_ok (xs := xs) (by omega) (at' := 80) (s := s) hs0 (by omega)
  refine seq_ex (e := [some (li ns), some (li xs), some (sy s), none, none, none, none, none, none, none, none, none, none, none, none, none, none, none, none, none, none, none, none]) ?_ ?_
  · simp only [ap_var, ap_c, ap_m1, ap_m2, ap_m3, ap_part, ap_nopart, ap_if, ap_isN, ap_notN, ap_list, ap_tup, ap_nil, ap_cons, ap_cb, ap_m1m, ap_chain, ap_isi, ap_mB, ap_asB, ap_and, ap_or, ap_not, ap_yes, ap_call, ap_lc, ap_noX, ap_iseq, ap_iown, ap_seq, th_nx, th_rt, th_exc, ap_skip, ap_set, ap_asg, ap_aug, ap_lm, ap_put, ap_oif, ap_ret, ap_drop, ap_raise, ap_gN, ap_gT, ap_gsN, ap_gsC, ap_app, Res.bind_ok, Res.bind_exc, Res.of_some, exOut_ok, exOut_exc, wipeE, Option.bind_some, List.length_cons, List.length_nil, List.getElem?_cons_zero, List.getElem?_cons_succ, List.set_cons_zero, List.set_cons_succ, List.map_cons, List.map_nil, addD, subD, cmpI, negD, modD, ap_lenL, ap_lenT, intD, int1, int2, walkD, if_true, if_false, decide_eq_true_eq, Bool.false_eq_true, reduceIte, Nat.reduceAdd, Nat.reduceSub, List.replicate_succ, List.replicate_zero, List.cons_append, List.nil_append, x0, p2, hb, z2, em, hs]
  refine seq_ex (e := [some (li ns), some (li xs), some (sy s), some (.tuple [sy s, .list rs]), none, none, none, none, none, none, none, none, none, none, none, none, none, none, none, none, none, none, none]) ?_ ?_
  · simp only [ap_var, ap_c, ap_m1, ap_m2, ap_m3, ap_part, ap_nopart, ap_if, ap_isN, ap_notN, ap_list, ap_tup, ap_nil, ap_cons, ap_cb, ap_m1m, ap_chain, ap_isi, ap_mB, ap_asB, ap_and, ap_or, ap_not, ap_yes, ap_call, ap_lc, ap_noX, ap_iseq, ap_iown, ap_seq, th_nx, th_rt, th_exc, ap_skip, ap_set, ap_asg, ap_aug, ap_lm, ap_put, ap_oif, ap_ret, ap_drop, ap_raise, ap_gN, ap_gT, ap_gsN, ap_gsC, ap_app, Res.bind_ok, Res.bind_exc, Res.of_some, exOut_ok, exOut_exc, wipeE, Option.bind_some, List.length_cons, List.length_nil, List.getElem?_cons_zero, List.getElem?_cons_succ, List.set_cons_zero, List.set_cons_succ, List.map_cons, List.map_nil, addD, subD, cmpI, negD, modD, ap_lenL, ap_lenT, intD, int1, int2, walkD, if_true, if_false, decide_eq_true_eq, Bool.false_eq_true, reduceIte, Nat.reduceAdd, Nat.reduceSub, List.replicate_succ, List.replicate_zero, List.cons_append, List.nil_append, hr, z2]
  have hrep : reprD [.tuple [sy s, .list rs]] = some (.str (PyData.shown (.tuple [sy s, .list rs]))) := by
    have : ∀ d ∈ [sy s, PyData.list rs], Sm 10000 2 d := by
      intro d hd
      simp only [List.mem_cons, List.not_mem_nil, or_false] at hd
      rcases hd with rfl | rfl
      · exact (sm_sy w (by omega)).mono (by omega) (by omega)
      · exact (Sm.list hrS).mono (by omega) (by omega)
    exact (Sm.tuple this).repr (by simp) (by omega)
  generalize PyData.shown (.tuple [sy s, .list rs]) = K at hrep
  refine seq_ex (e := [some (li ns), some (li xs), some (sy s), some (.tuple [sy s, .list rs]), some (.str K), none, none, none, none, none, none, none, none, none, none, none, none, none, none, none, none, none, none]) ?_ ?_
  · simp only [ap_var, ap_c, ap_m1, ap_m2, ap_m3, ap_part, ap_nopart, ap_if, ap_isN, ap_notN, ap_list, ap_tup, ap_nil, ap_cons, ap_cb, ap_m1m, ap_chain, ap_isi, ap_mB, ap_asB, ap_and, ap_or, ap_not, ap_yes, ap_call, ap_lc, ap_noX, ap_iseq, ap_iown, ap_seq, th_nx, th_rt, th_exc, ap_skip, ap_set, ap_asg, ap_aug, ap_lm, ap_put, ap_oif, ap_ret, ap_drop, ap_raise, ap_gN, ap_gT, ap_gsN, ap_gsC, ap_app, Res.bind_ok, Res.bind_exc, Res.of_some, exOut_ok, exOut_exc, wipeE, Option.bind_some, List.length_cons, List.length_nil, List.getElem?_cons_zero, List.getElem?_cons_succ, List.set_cons_zero, List.set_cons_succ, List.map_cons, List.map_nil, addD, subD, cmpI, negD, modD, ap_lenL, ap_lenT, intD, int1, int2, walkD, if_true, if_false, decide_eq_true_eq, Bool.false_eq_true, reduceIte, Nat.reduceAdd, Nat.reduceSub, List.replicate_succ, List.replicate_zero, List.cons_append, List.nil_append, hrep]
  refine seq_ex (e := [some (li ns), some (li xs), some (sy s), some (.tuple [sy s, .list rs]), some (.str K), some (szl s), none, none, none, none, none, none, none, none, none, none, none, none, none, none, none, none, none]) ?_ ?_
  · simp only [ap_var, ap_c, ap_m1, ap_m2, ap_m3, ap_part, ap_nopart, ap_if, ap_isN, ap_notN, ap_list, ap_tup, ap_nil, ap_cons, ap_cb, ap_m1m, ap_chain, ap_isi, ap_mB, ap_asB, ap_and, ap_or, ap_not, ap_yes, ap_call, ap_lc, ap_noX, ap_iseq, ap_iown, ap_seq, th_nx, th_rt, th_exc, ap_skip, ap_set, ap_asg, ap_aug, ap_lm, ap_put, ap_oif, ap_ret, ap_drop, ap_raise, ap_gN, ap_gT, ap_gsN, ap_gsC, ap_app, Res.bind_ok, Res.bind_exc, Res.of_some, exOut_ok, exOut_exc, wipeE, Option.bind_some, List.length_cons, List.length_nil, List.getElem?_cons_zero, List.getElem?_cons_succ, List.set_cons_zero, List.set_cons_succ, List.map_cons, List.map_nil, addD, subD, cmpI, negD, modD, ap_lenL, ap_lenT, intD, int1, int2, walkD, if_true, if_false, decide_eq_true_eq, Bool.false_eq_true, reduceIte, Nat.reduceAdd, Nat.reduceSub, List.replicate_succ, List.replicate_zero, List.cons_append, List.nil_append, lsizes_ok w (show s.length < 1000 by omega)]
  refine seq_ex (e := [some (li ns), some (li xs), some (sy s), some (.tuple [sy s, .list rs]), some (.str K), some (szl s), some (tl s), none, none, none, none, none, none, none, none, none, none, none, none, none, none, none, none]) ?_ ?_
  · simp only [ap_var, ap_c, ap_m1, ap_m2, ap_m3, ap_part, ap_nopart, ap_if, ap_isN, ap_notN, ap_list, ap_tup, ap_nil, ap_cons, ap_cb, ap_m1m, ap_chain, ap_isi, ap_mB, ap_asB, ap_and, ap_or, ap_not, ap_yes, ap_call, ap_lc, ap_noX, ap_iseq, ap_iown, ap_seq, th_nx, th_rt, th_exc, ap_skip, ap_set, ap_asg, ap_aug, ap_lm, ap_put, ap_oif, ap_ret, ap_drop, ap_raise, ap_gN, ap_gT, ap_gsN, ap_gsC, ap_app, Res.bind_ok, Res.bind_exc, Res.of_some, exOut_ok, exOut_exc, wipeE, Option.bind_some, List.length_cons, List.length_nil, List.getElem?_cons_zero, List.getElem?_cons_succ, List.set_cons_zero, List.set_cons_succ, List.map_cons, List.map_nil, addD, subD, cmpI, negD, modD, ap_lenL, ap_lenT, intD, int1, int2, walkD, if_true, if_false, decide_eq_true_eq, Bool.false_eq_true, reduceIte, Nat.reduceAdd, Nat.reduceSub, List.replicate_succ, List.replicate_zero, List.cons_append, List.nil_append, ltexts_ok w (show s.length < 1000 by omega)]
  have hsl : (0 : Int) < (s.length : Int) := by omega
  refine seq_for (fun n e => ∃ (j7 j11 j12 j13 j18 j19 j20 : Option D), e = [some (li ns), some (li xs), some (sy s), some (.tuple [sy s, .list rs]), some (.str K), some (szl s), some (tl s), j7, none, none, none, j11, j12, j13, none, none, none, none, j18, j19, j20, none, none]) (rng 0 12) ?_ ⟨_, _, _, _, _, _, _, rfl⟩ ?_ ?_
  · refine irange_ok (l := [.int (12 : Nat)]) ?_ (range1 (by omega))
    simp only [ap_var, ap_c, ap_m1, ap_m2, ap_m3, ap_part, ap_nopart, ap_if, ap_isN, ap_notN, ap_list, ap_tup, ap_nil, ap_cons, ap_cb, ap_m1m, ap_chain, ap_isi, ap_mB, ap_asB, ap_and, ap_or, ap_not, ap_yes, ap_call, ap_lc, ap_noX, ap_iseq, ap_iown, ap_seq, th_nx, th_rt, th_exc, ap_skip, ap_set, ap_asg, ap_aug, ap_lm, ap_put, ap_oif, ap_ret, ap_drop, ap_raise, ap_gN, ap_gT, ap_gsN, ap_gsC, ap_app, Res.bind_ok, Res.bind_exc, Res.of_some, exOut_ok, exOut_exc, wipeE, Option.bind_some, List.length_cons, List.length_nil, List.getElem?_cons_zero, List.getElem?_cons_succ, List.set_cons_zero, List.set_cons_succ, List.map_cons, List.map_nil, addD, subD, cmpI, negD, modD, ap_lenL, ap_lenT, intD, int1, int2, walkD, if_true, if_false, decide_eq_true_eq, Bool.false_eq_true, reduceIte, Nat.reduceAdd, Nat.reduceSub, List.replicate_succ, List.replicate_zero, List.cons_append, List.nil_append]
    rfl
  · rintro n d e hd ⟨j7, j11, j12, j13, j18, j19, j20, rfl⟩
    rw [rng_get] at hd
    split at hd <;> cases hd
    rename_i hn
    rw [Int.zero_add]
    have xa : ixD (li xs) (.int (100 + (n : Int))) = some (.int xs[100 + n]) := ix_li (n := 100 + n) (by omega) (List.getElem?_eq_getElem (by omega))
    have xb : ixD (li xs) (.int (120 + (n : Int))) = some (.int xs[120 + n]) := ix_li (n := 120 + n) (by omega) (List.getElem?_eq_getElem (by omega))
    generalize xs[100 + n] = u1 at xa
    generalize xs[120 + n] = u2 at xb
    obtain ⟨i, hi, hi2⟩ := mod_nat u1 hs0
    obtain ⟨j, hj, hj2⟩ := mod_nat u2 hs0
    obtain ⟨c1, g1, q1⟩ := turn_ok (e0 := some (li ns)) (e1 := some (li xs)) (e2 := some (sy s)) (e4 := some (.str K)) (e7 := some (.int (n : Int))) (e8 := none) (e9 := none) (e10 := none) (e11 := some (.int i)) (e12 := some (.int j)) (e13 := j13) (e14 := none) (e15 := none) (e16 := none) (e17 := none) (e20 := j20) (e21 := none) (s := s) (R := .list rs) (i := i) (j := j) w hs44 hi2 hj2
    obtain ⟨c2, g2, q2⟩ := turn_ok (e0 := some (li ns)) (e1 := some (li xs)) (e2 := some (sy s)) (e4 := some (.str K)) (e7 := some (.int (n : Int))) (e8 := none) (e9 := none) (e10 := none) (e11 := some (.int i)) (e12 := some (.int j)) (e13 := some c1) (e14 := none) (e15 := none) (e16 := none) (e17 := none) (e20 := some g1) (e21 := none) (s := s) (R := .list rs) (i := j) (j := i) w hs44 hj2 hi2
    obtain ⟨c3, g3, q3⟩ := turn_ok (e0 := some (li ns)) (e1 := some (li xs)) (e2 := some (sy s)) (e4 := some (.str K)) (e7 := some (.int (n : Int))) (e8 := none) (e9 := none) (e10 := none) (e11 := some (.int i)) (e12 := some (.int j)) (e13 := some c2) (e14 := none) (e15 := none) (e16 := none) (e17 := none) (e20 := some g2) (e21 := none) (s := s) (R := .list rs) (i := i) (j := i) w hs44 hi2 hi2
    refine ⟨_, [some (li ns), some (li xs), some (sy s), some (.tuple [sy s, .list rs]), some (.str K), some (szl s), some (tl s), some (.int (n : Int)), none, none, none, some (.int i), some (.int j), some c3, none, none, none, none, some (.int i), some (.int i), some g3, none, none], rfl, ?_, _, _, _, _, _, _, _, rfl⟩
    refine seq_nx (e := [some (li ns), some (li xs), some (sy s), some (.tuple [sy s, .list rs]), some (.str K), some (szl s), some (tl s), some (.int (n : Int)), none, none, none, some (.int i), j12, j13, none, none, none, none, j18, j19, j20, none, none]) ?_ ?_
    · simp only [ap_var, ap_c, ap_m1, ap_m2, ap_m3, ap_part, ap_nopart, ap_if, ap_isN, ap_notN, ap_list, ap_tup, ap_nil, ap_cons, ap_cb, ap_m1m, ap_chain, ap_isi, ap_mB, ap_asB, ap_and, ap_or, ap_not, ap_yes, ap_call, ap_lc, ap_noX, ap_iseq, ap_iown, ap_seq, th_nx, th_rt, th_exc, ap_skip, ap_set, ap_asg, ap_aug, ap_lm, ap_put, ap_oif, ap_ret, ap_drop, ap_raise, ap_gN, ap_gT, ap_gsN, ap_gsC, ap_app, Res.bind_ok, Res.bind_exc, Res.of_some, exOut_ok, exOut_exc, wipeE, Option.bind_some, List.length_cons, List.length_nil, List.getElem?_cons_zero, List.getElem?_cons_succ, List.set_cons_zero, List.set_cons_succ, List.map_cons, List.map_nil, addD, subD, cmpI, negD, modD, ap_lenL, ap_lenT, intD, int1, int2, walkD, if_true, if_false, decide_eq_true_eq, Bool.false_eq_true, reduceIte, Nat.reduceAdd, Nat.reduceSub, List.replicate_succ, List.replicate_zero, List.cons_append, List.nil_append, xa, List.length_map, hsl, hi]
    refine seq_nx (e := [some (li ns), some (li xs), some (sy s), some (.tuple [sy s, .list rs]), some (.str K), some (szl s), some (tl s), some (.int (n : Int)), none, none, none, some (.int i), some (.int j), j13, none, none, none, none, j18, j19, j20, none, none]) ?_ ?_
    · simp only [ap_var, ap_c, ap_m1, ap_m2, ap_m3, ap_part, ap_nopart, ap_if, ap_isN, ap_notN, ap_list, ap_tup, ap_nil, ap_cons, ap_cb, ap_m1m, ap_chain, ap_isi, ap_mB, ap_asB, ap_and, ap_or, ap_not, ap_yes, ap_call, ap_lc, ap_noX, ap_iseq, ap_iown, ap_seq, th_nx, th_rt, th_exc, ap_skip, ap_set, ap_asg, ap_aug, ap_lm, ap_put, ap_oif, ap_ret, ap_drop, ap_raise, ap_gN, ap_gT, ap_gsN, ap_gsC, ap_app, Res.bind_ok, Res.bind_exc, Res.of_some, exOut_ok, exOut_exc, wipeE, Option.bind_some, List.length_cons, List.length_nil, List.getElem?_cons_zero, List.getElem?_cons_succ, List.set_cons_zero, List.set_cons_succ, List.map_cons, List.map_nil, addD, subD, cmpI, negD, modD, ap_lenL, ap_lenT, intD, int1, int2, walkD, if_true, if_false, decide_eq_true_eq, Bool.false_eq_true, reduceIte, Nat.reduceAdd, Nat.reduceSub, List.replicate_succ, List.replicate_zero, List.cons_append, List.nil_append, xb, List.length_map, hsl, hj]
    refine seq_nx (e := [some (li ns), some (li xs), some (sy s), some (.tuple [sy s, .list rs]), some (.str K), some (szl s), some (tl s), some (.int (n : Int)), none, none, none, some (.int i), some (.int j), some c3, none, none, none, none, some (.int i), some (.int i), some g3, none, none]) ?_ rfl
    refine for_ok (ds := [.tuple [.int i, .int j], .tuple [.int j, .int i], .tuple [.int i, .int i]]) ?_ ?_
    · simp only [ap_var, ap_c, ap_m1, ap_m2, ap_m3, ap_part, ap_nopart, ap_if, ap_isN, ap_notN, ap_list, ap_tup, ap_nil, ap_cons, ap_cb, ap_m1m, ap_chain, ap_isi, ap_mB, ap_asB, ap_and, ap_or, ap_not, ap_yes, ap_call, ap_lc, ap_noX, ap_iseq, ap_iown, ap_seq, th_nx, th_rt, th_exc, ap_skip, ap_set, ap_asg, ap_aug, ap_lm, ap_put, ap_oif, ap_ret, ap_drop, ap_raise, ap_gN, ap_gT, ap_gsN, ap_gsC, ap_app, Res.bind_ok, Res.bind_exc, Res.of_some, exOut_ok, exOut_exc, wipeE, Option.bind_some, List.length_cons, List.length_nil, List.getElem?_cons_zero, List.getElem?_cons_succ, List.set_cons_zero, List.set_cons_succ, List.map_cons, List.map_nil, addD, subD, cmpI, negD, modD, ap_lenL, ap_lenT, intD, int1, int2, walkD, if_true, if_false, decide_eq_true_eq, Bool.false_eq_true, reduceIte, Nat.reduceAdd, Nat.reduceSub, List.replicate_succ, List.replicate_zero, List.cons_append, List.nil_append, z2, z3]
    exact loop_one rfl q1 (loop_one rfl q2 (loop_one rfl q3 rfl))
  rintro e ⟨j7, j11, j12, j13, j18, j19, j20, rfl⟩
  have to := fun (a b : Int) => told_ok w (show s.length < 1000 by omega) (.list rs) a b
  refine seq_ex (e := [some (li ns), some (li xs), some (sy s), some (.tuple [sy s, .list rs]), some (.str K), some (szl s), some (tl s), j7, none, none, none, some (.int ((s.length : Int) + 5)), some (.int (-2)), some (.int ((s.length : Int) + 5)), none, none, none, none, j18, j19, j20, none, none]) (for_ok (ds := [.tuple [.int (-1), .int 0, .int (-1)], .tuple [.int 0, .int s.length, .int s.length], .tuple [.int ((s.length : Int) + 5), .int (-2), .int ((s.length : Int) + 5)]]) ?_ ?_) ?_
  · simp only [ap_var, ap_c, ap_m1, ap_m2, ap_m3, ap_part, ap_nopart, ap_if, ap_isN, ap_notN, ap_list, ap_tup, ap_nil, ap_cons, ap_cb, ap_m1m, ap_chain, ap_isi, ap_mB, ap_asB, ap_and, ap_or, ap_not, ap_yes, ap_call, ap_lc, ap_noX, ap_iseq, ap_iown, ap_seq, th_nx, th_rt, th_exc, ap_skip, ap_set, ap_asg, ap_aug, ap_lm, ap_put, ap_oif, ap_ret, ap_drop, ap_raise, ap_gN, ap_gT, ap_gsN, ap_gsC, ap_app, Res.bind_ok, Res.bind_exc, Res.of_some, exOut_ok, exOut_exc, wipeE, Option.bind_some, List.length_cons, List.length_nil, List.getElem?_cons_zero, List.getElem?_cons_succ, List.set_cons_zero, List.set_cons_succ, List.map_cons, List.map_nil, addD, subD, cmpI, negD, modD, ap_lenL, ap_lenT, intD, int1, int2, walkD, if_true, if_false, decide_eq_true_eq, Bool.false_eq_true, reduceIte, Nat.reduceAdd, Nat.reduceSub, List.replicate_succ, List.replicate_zero, List.cons_append, List.nil_append, z3, List.length_map]
  · have t1 : toldD s (-1) 0 = rg (-1) := told_out1 (by omega)
    have t2 : toldD s 0 s.length = rg s.length := told_out2 (by omega) (by omega)
    have t3 : toldD s ((s.length : Int) + 5) (-2) = rg ((s.length : Int) + 5) := told_out1 (by omega)
    have r1 := ne_rg (-1)
    have r2 := ne_rg (s.length : Int)
    have r3 := ne_rg ((s.length : Int) + 5)
    refine loop_one (e1 := [some (li ns), some (li xs), some (sy s), some (.tuple [sy s, .list rs]), some (.str K), some (szl s), some (tl s), j7, none, none, none, some (.int (-1)), some (.int 0), some (.int (-1)), none, none, none, none, j18, j19, j20, none, none]) (e2 := [some (li ns), some (li xs), some (sy s), some (.tuple [sy s, .list rs]), some (.str K), some (szl s), some (tl s), j7, none, none, none, some (.int (-1)), some (.int 0), some (.int (-1)), none, none, none, none, j18, j19, j20, none, none]) rfl ?_ (loop_one (e1 := [some (li ns), some (li xs), some (sy s), some (.tuple [sy s, .list rs]), some (.str K), some (szl s), some (tl s), j7, none, none, none, some (.int 0), some (.int s.length), some (.int s.length), none, none, none, none, j18, j19, j20, none, none]) (e2 := [some (li ns), some (li xs), some (sy s), some (.tuple [sy s, .list rs]), some (.str K), some (szl s), some (tl s), j7, none, none, none, some (.int 0), some (.int s.length), some (.int s.length), none, none, none, none, j18, j19, j20, none, none]) rfl ?_ (loop_one (e1 := [some (li ns), some (li xs), some (sy s), some (.tuple [sy s, .list rs]), some (.str K), some (szl s), some (tl s), j7, none, none, none, some (.int ((s.length : Int) + 5)), some (.int (-2)), some (.int ((s.length : Int) + 5)), none, none, none, none, j18, j19, j20, none, none]) (e2 := [some (li ns), some (li xs), some (sy s), some (.tuple [sy s, .list rs]), some (.str K), some (szl s), some (tl s), j7, none, none, none, some (.int ((s.length : Int) + 5)), some (.int (-2)), some (.int ((s.length : Int) + 5)), none, none, none, none, j18, j19, j20, none, none]) rfl ?_ rfl))
    · simp only [ap_var, ap_c, ap_m1, ap_m2, ap_m3, ap_part, ap_nopart, ap_if, ap_isN, ap_notN, ap_list, ap_tup, ap_nil, ap_cons, ap_cb, ap_m1m, ap_chain, ap_isi, ap_mB, ap_asB, ap_and, ap_or, ap_not, ap_yes, ap_call, ap_lc, ap_noX, ap_iseq, ap_iown, ap_seq, th_nx, th_rt, th_exc, ap_skip, ap_set, ap_asg, ap_aug, ap_lm, ap_put, ap_oif, ap_ret, ap_drop, ap_raise, ap_gN, ap_gT, ap_gsN, ap_gsC, ap_app, Res.bind_ok, Res.bind_exc, Res.of_some, exOut_ok, exOut_exc, wipeE, Option.bind_some, List.length_cons, List.length_nil, List.getElem?_cons_zero, List.getElem?_cons_succ, List.set_cons_zero, List.set_cons_succ, List.map_cons, List.map_nil, addD, subD, cmpI, negD, modD, ap_lenL, ap_lenT, intD, int1, int2, walkD, if_true, if_false, decide_eq_true_eq, Bool.false_eq_true, reduceIte, Nat.reduceAdd, Nat.reduceSub, List.replicate_succ, List.replicate_zero, List.cons_append, List.nil_append, to, t1, z2, r1]
    · simp only [ap_var, ap_c, ap_m1, ap_m2, ap_m3, ap_part, ap_nopart, ap_if, ap_isN, ap_notN, ap_list, ap_tup, ap_nil, ap_cons, ap_cb, ap_m1m, ap_chain, ap_isi, ap_mB, ap_asB, ap_and, ap_or, ap_not, ap_yes, ap_call, ap_lc, ap_noX, ap_iseq, ap_iown, ap_seq, th_nx, th_rt, th_exc, ap_skip, ap_set, ap_asg, ap_aug, ap_lm, ap_put, ap_oif, ap_ret, ap_drop, ap_raise, ap_gN, ap_gT, ap_gsN, ap_gsC, ap_app, Res.bind_ok, Res.bind_exc, Res.of_some, exOut_ok, exOut_exc, wipeE, Option.bind_some, List.length_cons, List.length_nil, List.getElem?_cons_zero, List.getElem?_cons_succ, List.set_cons_zero, List.set_cons_succ, List.map_cons, List.map_nil, addD, subD, cmpI, negD, modD, ap_lenL, ap_lenT, intD, int1, int2, walkD, if_true, if_false, decide_eq_true_eq, Bool.false_eq_true, reduceIte, Nat.reduceAdd, Nat.reduceSub, List.replicate_succ, List.replicate_zero, List.cons_append, List.nil_append, to, t2, z2, r2]
    · simp only [ap_var, ap_c, ap_m1, ap_m2, ap_m3, ap_part, ap_nopart, ap_if, ap_isN, ap_notN, ap_list, ap_tup, ap_nil, ap_cons, ap_cb, ap_m1m, ap_chain, ap_isi, ap_mB, ap_asB, ap_and, ap_or, ap_not, ap_yes, ap_call, ap_lc, ap_noX, ap_iseq, ap_iown, ap_seq, th_nx, th_rt, th_exc, ap_skip, ap_set, ap_asg, ap_aug, ap_lm, ap_put, ap_oif, ap_ret, ap_drop, ap_raise, ap_gN, ap_gT, ap_gsN, ap_gsC, ap_app, Res.bind_ok, Res.bind_exc, Res.of_some, exOut_ok, exOut_exc, wipeE, Option.bind_some, List.length_cons, List.length_nil, List.getElem?_cons_zero, List.getElem?_cons_succ, List.set_cons_zero, List.set_cons_succ, List.map_cons, List.map_nil, addD, subD, cmpI, negD, modD, ap_lenL, ap_lenT, intD, int1, int2, walkD, if_true, if_false, decide_eq_true_eq, Bool.false_eq_true, reduceIte, Nat.reduceAdd, Nat.reduceSub, List.replicate_succ, List.replicate_zero, List.cons_append, List.nil_append, to, t3, z2, r3]
  obtain ⟨s2, R, hc, w2, hl2, hR4, hR⟩ := chains_ok hxl
  refine seq_ex (e := [some (li ns), some (li xs), some (sy s), some (.tuple [sy s, .list rs]), some (.str K), some (szl s), some (tl s), j7, none, none, none, some (.int ((s.length : Int) + 5)), some (.int (-2)), some (.int ((s.length : Int) + 5)), some (sy s2), some (rw' R), some (.list (R.map fun r => sL (tx s2 r))), none, j18, j19, j20, none, none]) ?_ ?_
  · simp only [ap_var, ap_c, ap_m1, ap_m2, ap_m3, ap_part, ap_nopart, ap_if, ap_isN, ap_notN, ap_list, ap_tup, ap_nil, ap_cons, ap_cb, ap_m1m, ap_chain, ap_isi, ap_mB, ap_asB, ap_and, ap_or, ap_not, ap_yes, ap_call, ap_lc, ap_noX, ap_iseq, ap_iown, ap_seq, th_nx, th_rt, th_exc, ap_skip, ap_set, ap_asg, ap_aug, ap_lm, ap_put, ap_oif, ap_ret, ap_drop, ap_raise, ap_gN, ap_gT, ap_gsN, ap_gsC, ap_app, Res.bind_ok, Res.bind_exc, Res.of_some, exOut_ok, exOut_exc, wipeE, Option.bind_some, List.length_cons, List.length_nil, List.getElem?_cons_zero, List.getElem?_cons_succ, List.set_cons_zero, List.set_cons_succ, List.map_cons, List.map_nil, addD, subD, cmpI, negD, modD, ap_lenL, ap_lenT, intD, int1, int2, walkD, if_true, if_false, decide_eq_true_eq, Bool.false_eq_true, reduceIte, Nat.reduceAdd, Nat.reduceSub, List.replicate_succ, List.replicate_zero, List.cons_append, List.nil_append, hc]
  have hlt : ((s2.length : Nat) : Int) < 200 := by omega
  obtain ⟨j17, j21, hif⟩ : ∃ j17 j21 : Option D, (oIf (mB (m2 ltI (mCB lenD (aCons (mVar 14) aNil)) (mC (.int 200)))) (oFor (iRange (aCons (mCB lenD (aCons (mVar 15) aNil)) aNil)) (gN 17) (oSeq (oFor (iRange (aCons (mCB lenD (aCons (mVar 15) aNil)) aNil)) (gN 21) (oSeq (oIf (mB (m2 neD (mCB reprD (aCons (mCall m__law_told (aCons (mTup (aCons (mVar 14) (aCons (mVar 15) aNil))) (aCons (m2 ixD (mVar 15) (mVar 17)) (aCons (m2 ixD (mVar 15) (mVar 21)) aNil)))) aNil)) (mCB reprD (aCons (mCall m__law_due (aCons (m2 ixD (mVar 16) (mVar 17)) (aCons (m2 ixD (mVar 16) (mVar 21)) aNil))) aNil)))) (oRet (mC (.bool false))) oSkip) oSkip)) oSkip)) oSkip) [some (li ns), some (li xs), some (sy s), some (.tuple [sy s, .list rs]), some (.str K), some (szl s), some (tl s), j7, none, none, none, some (.int ((s.length : Int) + 5)), some (.int (-2)), some (.int ((s.length : Int) + 5)), some (sy s2), some (rw' R), some (.list (R.map fun r => sL (tx s2 r))), none, j18, j19, j20, none, none] = .nx [some (li ns), some (li xs), some (sy s), some (.tuple [sy s, .list rs]), some (.str K), some (szl s), some (tl s), j7, none, none, none, some (.int ((s.length : Int) + 5)), some (.int (-2)), some (.int ((s.length : Int) + 5)), some (sy s2), some (rw' R), some (.list (R.map fun r => sL (tx s2 r))), j17, j18, j19, j20, j21, none] := by
    have hrr : ∀ {j17 j21 : Option D}, iRange (aCons (mCB lenD (aCons (mVar 15) aNil)) aNil) [some (li ns), some (li xs), some (sy s), some (.tuple [sy s, .list rs]), some (.str K), some (szl s), some (tl s), j7, none, none, none, some (.int ((s.length : Int) + 5)), some (.int (-2)), some (.int ((s.length : Int) + 5)), some (sy s2), some (rw' R), some (.list (R.map fun r => sL (tx s2 r))), j17, j18, j19, j20, j21, none] = .ok (rng 0 R.length) := by
      intro j17 j21
      refine irange_ok (l := [.int R.length]) ?_ (range1 (by omega))
      simp only [ap_var, ap_c, ap_m1, ap_m2, ap_m3, ap_part, ap_nopart, ap_if, ap_isN, ap_notN, ap_list, ap_tup, ap_nil, ap_cons, ap_cb, ap_m1m, ap_chain, ap_isi, ap_mB, ap_asB, ap_and, ap_or, ap_not, ap_yes, ap_call, ap_lc, ap_noX, ap_iseq, ap_iown, ap_seq, th_nx, th_rt, th_exc, ap_skip, ap_set, ap_asg, ap_aug, ap_lm, ap_put, ap_oif, ap_ret, ap_drop, ap_raise, ap_gN, ap_gT, ap_gsN, ap_gsC, ap_app, Res.bind_ok, Res.bind_exc, Res.of_some, exOut_ok, exOut_exc, wipeE, Option.bind_some, List.length_cons, List.length_nil, List.getElem?_cons_zero, List.getElem?_cons_succ, List.set_cons_zero, List.set_cons_succ, List.map_cons, List.map_nil, addD, subD, cmpI, negD, modD, ap_lenL, ap_lenT, intD, int1, int2, walkD, if_true, if_false, decide_eq_true_eq, Bool.false_eq_true, reduceIte, Nat.reduceAdd, Nat.reduceSub, List.replicate_succ, List.replicate_zero, List.cons_append, List.nil_append, List.length_map]
    obtain ⟨e, h1, j17, j21, rfl⟩ := for_all (g := gN 17) (o := (oSeq (oFor (iRange (aCons (mCB lenD (aCons (mVar 15) aNil)) aNil)) (gN 21) (oSeq (oIf (mB (m2 neD (mCB reprD (aCons (mCall m__law_told (aCons (mTup (aCons (mVar 14) (aCons (mVar 15) aNil))) (aCons (m2 ixD (mVar 15) (mVar 17)) (aCons (m2 ixD (mVar 15) (mVar 21)) aNil)))) aNil)) (mCB reprD (aCons (mCall m__law_due (aCons (m2 ixD (mVar 16) (mVar 17)) (aCons (m2 ixD (mVar 16) (mVar 21)) aNil))) aNil)))) (oRet (mC (.bool false))) oSkip) oSkip)) oSkip)) (fun _ e => ∃ j17 j21 : Option D, e = [some (li ns), some (li xs), some (sy s), some (.tuple [sy s, .list rs]), some (.str K), some (szl s), some (tl s), j7, none, none, none, some (.int ((s.length : Int) + 5)), some (.int (-2)), some (.int ((s.length : Int) + 5)), some (sy s2), some (rw' R), some (.list (R.map fun r => sL (tx s2 r))), j17, j18, j19, j20, j21, none]) (rng 0 R.length) (hrr (j17 := none) (j21 := none)) ⟨none, none, rfl⟩ (by
      rintro a d e hd ⟨j17, j21, rfl⟩
      rw [rng_get] at hd
      split at hd <;> cases hd
      rename_i ha
      rw [Int.zero_add]
      obtain ⟨e, h1, j21, rfl⟩ := for_all (g := gN 21) (o := (oSeq (oIf (mB (m2 neD (mCB reprD (aCons (mCall m__law_told (aCons (mTup (aCons (mVar 14) (aCons (mVar 15) aNil))) (aCons (m2 ixD (mVar 15) (mVar 17)) (aCons (m2 ixD (mVar 15) (mVar 21)) aNil)))) aNil)) (mCB reprD (aCons (mCall m__law_due (aCons (m2 ixD (mVar 16) (mVar 17)) (aCons (m2 ixD (mVar 16) (mVar 21)) aNil))) aNil)))) (oRet (mC (.bool false))) oSkip) oSkip)) (fun _ e => ∃ j21 : Option D, e = [some (li ns), some (li xs), some (sy s), some (.tuple [sy s, .list rs]), some (.str K), some (szl s), some (tl s), j7, none, none, none, some (.int ((s.length : Int) + 5)), some (.int (-2)), some (.int ((s.length : Int) + 5)), some (sy s2), some (rw' R), some (.list (R.map fun r => sL (tx s2 r))), some (.int (a : Int)), j18, j19, j20, j21, none]) (rng 0 R.length) (hrr (j17 := some (.int (a : Int))) (j21 := j21)) ⟨j21, rfl⟩ (by
        rintro c d e hd ⟨j21, rfl⟩
        rw [rng_get] at hd
        split at hd <;> cases hd
        rename_i hc
        rw [Int.zero_add]
        have ga : R[a]? = some R[a] := List.getElem?_eq_getElem ha
        have gc : R[c]? = some R[c] := List.getElem?_eq_getElem hc
        obtain ⟨r1, r2⟩ := hR R[a] (List.getElem_mem ha)
        obtain ⟨r3, r4⟩ := hR R[c] (List.getElem_mem hc)
        generalize R[a] = ra at ga r1 r2
        generalize R[c] = rc at gc r3 r4
        have t1 := told_ok w2 (show s2.length < 1000 by omega) (rw' R) (ra : Int) (rc : Int)
        have t2 := told_in r1 r3
        rw [if_neg (by omega), if_neg (by omega)] at t2
        rw [t2] at t1
        have t3 : m__law_due [sL (tx s2 ra), sL (tx s2 rc)] = .ok (dueD (tx s2 ra) (tx s2 rc)) := due_ok (by omega) (by omega)
        have t4 := (sm_due (xs := tx s2 ra) (ys := tx s2 rc) (by omega)).repr (by omega) (by omega)
        refine ⟨_, [some (li ns), some (li xs), some (sy s), some (.tuple [sy s, .list rs]), some (.str K), some (szl s), some (tl s), j7, none, none, none, some (.int ((s.length : Int) + 5)), some (.int (-2)), some (.int ((s.length : Int) + 5)), some (sy s2), some (rw' R), some (.list (R.map fun r => sL (tx s2 r))), some (.int (a : Int)), j18, j19, j20, some (.int (c : Int)), none], rfl, ?_, _, rfl⟩
        simp only [ap_var, ap_c, ap_m1, ap_m2, ap_m3, ap_part, ap_nopart, ap_if, ap_isN, ap_notN, ap_list, ap_tup, ap_nil, ap_cons, ap_cb, ap_m1m, ap_chain, ap_isi, ap_mB, ap_asB, ap_and, ap_or, ap_not, ap_yes, ap_call, ap_lc, ap_noX, ap_iseq, ap_iown, ap_seq, th_nx, th_rt, th_exc, ap_skip, ap_set, ap_asg, ap_aug, ap_lm, ap_put, ap_oif, ap_ret, ap_drop, ap_raise, ap_gN, ap_gT, ap_gsN, ap_gsC, ap_app, Res.bind_ok, Res.bind_exc, Res.of_some, exOut_ok, exOut_exc, wipeE, Option.bind_some, List.length_cons, List.length_nil, List.getElem?_cons_zero, List.getElem?_cons_succ, List.set_cons_zero, List.set_cons_succ, List.map_cons, List.map_nil, addD, subD, cmpI, negD, modD, ap_lenL, ap_lenT, intD, int1, int2, walkD, if_true, if_false, decide_eq_true_eq, Bool.false_eq_true, reduceIte, Nat.reduceAdd, Nat.reduceSub, List.replicate_succ, List.replicate_zero, List.cons_append, List.nil_append, z2, rw_get ga, rw_get gc, sL_get ga, sL_get gc, t1, t3, t4, ne_same])
      exact ⟨_, _, rfl, seq_nx h1 rfl, _, _, rfl⟩)
    refine ⟨j17, j21, ?_⟩
    have hcnd : mB (m2 ltI (mCB lenD (aCons (mVar 14) aNil)) (mC (.int 200))) [some (li ns), some (li xs), some (sy s), some (.tuple [sy s, .list rs]), some (.str K), some (szl s), some (tl s), j7, none, none, none, some (.int ((s.length : Int) + 5)), some (.int (-2)), some (.int ((s.length : Int) + 5)), some (sy s2), some (rw' R), some (.list (R.map fun r => sL (tx s2 r))), none, j18, j19, j20, none, none] = .ok true := by
      simp only [ap_var, ap_c, ap_m1, ap_m2, ap_m3, ap_part, ap_nopart, ap_if, ap_isN, ap_notN, ap_list, ap_tup, ap_nil, ap_cons, ap_cb, ap_m1m, ap_chain, ap_isi, ap_mB, ap_asB, ap_and, ap_or, ap_not, ap_yes, ap_call, ap_lc, ap_noX, ap_iseq, ap_iown, ap_seq, th_nx, th_rt, th_exc, ap_skip, ap_set, ap_asg, ap_aug, ap_lm, ap_put, ap_oif, ap_ret, ap_drop, ap_raise, ap_gN, ap_gT, ap_gsN, ap_gsC, ap_app, Res.bind_ok, Res.bind_exc, Res.of_some, exOut_ok, exOut_exc, wipeE, Option.bind_some, List.length_cons, List.length_nil, List.getElem?_cons_zero, List.getElem?_cons_succ, List.set_cons_zero, List.set_cons_succ, List.map_cons, List.map_nil, addD, subD, cmpI, negD, modD, ap_lenL, ap_lenT, intD, int1, int2, walkD, if_true, if_false, decide_eq_true_eq, Bool.false_eq_true, reduceIte, Nat.reduceAdd, Nat.reduceSub, List.replicate_succ, List.replicate_zero, List.cons_append, List.nil_append, List.length_map, hlt, decide_true]
    exact oif_true hcnd h1
  refine seq_ex hif ?_
  refine seq_ex (e := [some (li ns), some (li xs), some (sy s), some (.tuple [sy s, .list rs]), some (.str K), some (szl s), some (tl s), j7, some (sy [.L 97]), none, none, some (.int ((s.length : Int) + 5)), some (.int (-2)), some (.int ((s.length : Int) + 5)), some (sy s2), some (rw' R), some (.list (R.map fun r => sL (tx s2 r))), j17, j18, j19, j20, j21, none]) ?_ ?_
  · rw [s_a]
    simp only [ap_var, ap_c, ap_m1, ap_m2, ap_m3, ap_part, ap_nopart, ap_if, ap_isN, ap_notN, ap_list, ap_tup, ap_nil, ap_cons, ap_cb, ap_m1m, ap_chain, ap_isi, ap_mB, ap_asB, ap_and, ap_or, ap_not, ap_yes, ap_call, ap_lc, ap_noX, ap_iseq, ap_iown, ap_seq, th_nx, th_rt, th_exc, ap_skip, ap_set, ap_asg, ap_aug, ap_lm, ap_put, ap_oif, ap_ret, ap_drop, ap_raise, ap_gN, ap_gT, ap_gsN, ap_gsC, ap_app, Res.bind_ok, Res.bind_exc, Res.of_some, exOut_ok, exOut_exc, wipeE, Option.bind_some, List.length_cons, List.length_nil, List.getElem?_cons_zero, List.getElem?_cons_succ, List.set_cons_zero, List.set_cons_succ, List.map_cons, List.map_nil, addD, subD, cmpI, negD, modD, ap_lenL, ap_lenT, intD, int1, int2, walkD, if_true, if_false, decide_eq_true_eq, Bool.false_eq_true, reduceIte, Nat.reduceAdd, Nat.reduceSub, List.replicate_succ, List.replicate_zero, List.cons_append, List.nil_append, z1, z2]
    rfl
  refine seq_ex (e := [some (li ns), some (li xs), some (sy s), some (.tuple [sy s, .list rs]), some (.str K), some (szl s), some (tl s), j7, some (sy [.L 97]), some (.int ((0 : Nat) : Int)), none, some (.int ((s.length : Int) + 5)), some (.int (-2)), some (.int ((s.length : Int) + 5)), some (sy s2), some (rw' R), some (.list (R.map fun r => sL (tx s2 r))), j17, j18, j19, j20, j21, none]) ?_ ?_
  · simp only [ap_var, ap_c, ap_m1, ap_m2, ap_m3, ap_part, ap_nopart, ap_if, ap_isN, ap_notN, ap_list, ap_tup, ap_nil, ap_cons, ap_cb, ap_m1m, ap_chain, ap_isi, ap_mB, ap_asB, ap_and, ap_or, ap_not, ap_yes, ap_call, ap_lc, ap_noX, ap_iseq, ap_iown, ap_seq, th_nx, th_rt, th_exc, ap_skip, ap_set, ap_asg, ap_aug, ap_lm, ap_put, ap_oif, ap_ret, ap_drop, ap_raise, ap_gN, ap_gT, ap_gsN, ap_gsC, ap_app, Res.bind_ok, Res.bind_exc, Res.of_some, exOut_ok, exOut_exc, wipeE, Option.bind_some, List.length_cons, List.length_nil, List.getElem?_cons_zero, List.getElem?_cons_succ, List.set_cons_zero, List.set_cons_succ, List.map_cons, List.map_nil, addD, subD, cmpI, negD, modD, ap_lenL, ap_lenT, intD, int1, int2, walkD, if_true, if_false, decide_eq_true_eq, Bool.false_eq_true, reduceIte, Nat.reduceAdd, Nat.reduceSub, List.replicate_succ, List.replicate_zero, List.cons_append, List.nil_append]
    rfl
  obtain ⟨j10, hg⟩ := great_loop (e0 := some (li ns)) (e1 := some (li xs)) (e2 := some (sy s)) (e3 := some (.tuple [sy s, .list rs])) (e4 := some (.str K)) (e5 := some (szl s)) (e6 := some (tl s)) (e7 := j7) (e11 := some (.int ((s.length : Int) + 5))) (e12 := some (.int (-2))) (e13 := some (.int ((s.length : Int) + 5))) (e14 := some (sy s2)) (e15 := some (rw' R)) (e16 := some (.list (R.map fun r => sL (tx s2 r)))) (e17 := j17) (e18 := j18) (e19 := j19) (e20 := j20) (e21 := j21) (e22 := none) [1, 1, 1, 1, 0, 1, 0, 0, 0, 0, 1] [.L 97] 0 none (by decide)
  rw [gg_gr] at hg
  refine seq_ex (e := [some (li ns), some (li xs), some (sy s), some (.tuple [sy s, .list rs]), some (.str K), some (szl s), some (tl s), j7, some (sy gr), some (.int ((17 : Nat) : Int)), j10, some (.int ((s.length : Int) + 5)), some (.int (-2)), some (.int ((s.length : Int) + 5)), some (sy s2), some (rw' R), some (.list (R.map fun r => sL (tx s2 r))), j17, j18, j19, j20, j21, none]) (for_ok (ds := [1, 1, 1, 1, 0, 1, 0, 0, 0, 0, 1].map fun (b : Nat) => PyData.int b) ?_ hg) ?_
  · simp only [ap_var, ap_c, ap_m1, ap_m2, ap_m3, ap_part, ap_nopart, ap_if, ap_isN, ap_notN, ap_list, ap_tup, ap_nil, ap_cons, ap_cb, ap_m1m, ap_chain, ap_isi, ap_mB, ap_asB, ap_and, ap_or, ap_not, ap_yes, ap_call, ap_lc, ap_noX, ap_iseq, ap_iown, ap_seq, th_nx, th_rt, th_exc, ap_skip, ap_set, ap_asg, ap_aug, ap_lm, ap_put, ap_oif, ap_ret, ap_drop, ap_raise, ap_gN, ap_gT, ap_gsN, ap_gsC, ap_app, Res.bind_ok, Res.bind_exc, Res.of_some, exOut_ok, exOut_exc, wipeE, Option.bind_some, List.length_cons, List.length_nil, List.getElem?_cons_zero, List.getElem?_cons_succ, List.set_cons_zero, List.set_cons_succ, List.map_cons, List.map_nil, addD, subD, cmpI, negD, modD, ap_lenL, ap_lenT, intD, int1, int2, walkD, if_true, if_false, decide_eq_true_eq, Bool.false_eq_true, reduceIte, Nat.reduceAdd, Nat.reduceSub, List.replicate_succ, List.replicate_zero, List.cons_append, List.nil_append, sz_ge (show 11 ≤ 16777216 by omega)]
    rfl
  have hgl : gr.length < 1000 := by decide
  have tg := fun (a b : Int) => told_ok wf_gr hgl (.list [.int ((17 : Nat) : Int)]) a b
  have rp1 := (Sm.none.mono (w' := 200) (dp' := 1) (by omega) (by omega)).repr (by omega) (by omega)
  have rp2 := (sm_long (n := 4001) (by omega)).repr (by omega) (by omega)
  have rp3 := (Sm.int (n := 2000) (by omega)).repr (by omega) (by omega)
  rw [show (((4001 : Nat) : Int)) = 4001 from rfl] at rp2
  rw [show (((2000 : Nat) : Int)) = 2000 from rfl] at rp3
  refine seq_ex (e := [some (li ns), some (li xs), some (sy s), some (.tuple [sy s, .list rs]), some (.str K), some (szl s), some (tl s), j7, some (sy gr), some (.int ((17 : Nat) : Int)), j10, some (.int ((16 : Nat) : Int)), some (.int ((15 : Nat) : Int)), some (.int 2000), some (sy s2), some (rw' R), some (.list (R.map fun r => sL (tx s2 r))), j17, j18, j19, j20, j21, none]) (for_ok (ds := [.tuple [.int ((16 : Nat) : Int), .int ((16 : Nat) : Int), .none], .tuple [.int ((16 : Nat) : Int), .int ((17 : Nat) : Int), .tuple [.str ("long" : String), .int 4001]], .tuple [.int ((17 : Nat) : Int), .int ((16 : Nat) : Int), .tuple [.str ("long" : String), .int 4001]], .tuple [.int ((16 : Nat) : Int), .int ((15 : Nat) : Int), .int 2000]]) ?_ ?_) ?_
  · simp only [ap_var, ap_c, ap_m1, ap_m2, ap_m3, ap_part, ap_nopart, ap_if, ap_isN, ap_notN, ap_list, ap_tup, ap_nil, ap_cons, ap_cb, ap_m1m, ap_chain, ap_isi, ap_mB, ap_asB, ap_and, ap_or, ap_not, ap_yes, ap_call, ap_lc, ap_noX, ap_iseq, ap_iown, ap_seq, th_nx, th_rt, th_exc, ap_skip, ap_set, ap_asg, ap_aug, ap_lm, ap_put, ap_oif, ap_ret, ap_drop, ap_raise, ap_gN, ap_gT, ap_gsN, ap_gsC, ap_app, Res.bind_ok, Res.bind_exc, Res.of_some, exOut_ok, exOut_exc, wipeE, Option.bind_some, List.length_cons, List.length_nil, List.getElem?_cons_zero, List.getElem?_cons_succ, List.set_cons_zero, List.set_cons_succ, List.map_cons, List.map_nil, addD, subD, cmpI, negD, modD, ap_lenL, ap_lenT, intD, int1, int2, walkD, if_true, if_false, decide_eq_true_eq, Bool.false_eq_true, reduceIte, Nat.reduceAdd, Nat.reduceSub, List.replicate_succ, List.replicate_zero, List.cons_append, List.nil_append, z2, z3, z4]
    rfl
  · refine loop_one (e1 := [some (li ns), some (li xs), some (sy s), some (.tuple [sy s, .list rs]), some (.str K), some (szl s), some (tl s), j7, some (sy gr), some (.int ((17 : Nat) : Int)), j10, some (.int ((16 : Nat) : Int)), some (.int ((16 : Nat) : Int)), some (.none), some (sy s2), some (rw' R), some (.list (R.map fun r => sL (tx s2 r))), j17, j18, j19, j20, j21, none]) (e2 := [some (li ns), some (li xs), some (sy s), some (.tuple [sy s, .list rs]), some (.str K), some (szl s), some (tl s), j7, some (sy gr), some (.int ((17 : Nat) : Int)), j10, some (.int ((16 : Nat) : Int)), some (.int ((16 : Nat) : Int)), some (.none), some (sy s2), some (rw' R), some (.list (R.map fun r => sL (tx s2 r))), j17, j18, j19, j20, j21, none]) rfl ?_ (loop_one (e1 := [some (li ns), some (li xs), some (sy s), some (.tuple [sy s, .list rs]), some (.str K), some (szl s), some (tl s), j7, some (sy gr), some (.int ((17 : Nat) : Int)), j10, some (.int ((16 : Nat) : Int)), some (.int ((17 : Nat) : Int)), some (.tuple [.str ("long" : String), .int 4001]), some (sy s2), some (rw' R), some (.list (R.map fun r => sL (tx s2 r))), j17, j18, j19, j20, j21, none]) (e2 := [some (li ns), some (li xs), some (sy s), some (.tuple [sy s, .list rs]), some (.str K), some (szl s), some (tl s), j7, some (sy gr), some (.int ((17 : Nat) : Int)), j10, some (.int ((16 : Nat) : Int)), some (.int ((17 : Nat) : Int)), some (.tuple [.str ("long" : String), .int 4001]), some (sy s2), some (rw' R), some (.list (R.map fun r => sL (tx s2 r))), j17, j18, j19, j20, j21, none]) rfl ?_ (loop_one (e1 := [some (li ns), some (li xs), some (sy s), some (.tuple [sy s, .list rs]), some (.str K), some (szl s), some (tl s), j7, some (sy gr), some (.int ((17 : Nat) : Int)), j10, some (.int ((17 : Nat) : Int)), some (.int ((16 : Nat) : Int)), some (.tuple [.str ("long" : String), .int 4001]), some (sy s2), some (rw' R), some (.list (R.map fun r => sL (tx s2 r))), j17, j18, j19, j20, j21, none]) (e2 := [some (li ns), some (li xs), some (sy s), some (.tuple [sy s, .list rs]), some (.str K), some (szl s), some (tl s), j7, some (sy gr), some (.int ((17 : Nat) : Int)), j10, some (.int ((17 : Nat) : Int)), some (.int ((16 : Nat) : Int)), some (.tuple [.str ("long" : String), .int 4001]), some (sy s2), some (rw' R), some (.list (R.map fun r => sL (tx s2 r))), j17, j18, j19, j20, j21, none]) rfl ?_ (loop_one (e1 := [some (li ns), some (li xs), some (sy s), some (.tuple [sy s, .list rs]), some (.str K), some (szl s), some (tl s), j7, some (sy gr), some (.int ((17 : Nat) : Int)), j10, some (.int ((16 : Nat) : Int)), some (.int ((15 : Nat) : Int)), some (.int 2000), some (sy s2), some (rw' R), some (.list (R.map fun r => sL (tx s2 r))), j17, j18, j19, j20, j21, none]) (e2 := [some (li ns), some (li xs), some (sy s), some (.tuple [sy s, .list rs]), some (.str K), some (szl s), some (tl s), j7, some (sy gr), some (.int ((17 : Nat) : Int)), j10, some (.int ((16 : Nat) : Int)), some (.int ((15 : Nat) : Int)), some (.int 2000), some (sy s2), some (rw' R), some (.list (R.map fun r => sL (tx s2 r))), j17, j18, j19, j20, j21, none]) rfl ?_ rfl)))
    · exact last_ok ((tg _ _).trans (congrArg Res.ok great1)) rp1
    · exact last_ok ((tg _ _).trans (congrArg Res.ok great2)) rp2
    · exact last_ok ((tg _ _).trans (congrArg Res.ok great3)) rp2
    · exact last_ok ((tg _ _).trans (congrArg Res.ok great4)) rp3
  refine ⟨_, ?_, rfl⟩
  have hk : eqD (.str K) (.str K) = some (.bool true) := eqs (decide_eq_true rfl)
  simp only [ap_var, ap_c, ap_m1, ap_m2, ap_m3, ap_part, ap_nopart, ap_if, ap_isN, ap_notN, ap_list, ap_tup, ap_nil, ap_cons, ap_cb, ap_m1m, ap_chain, ap_isi, ap_mB, ap_asB, ap_and, ap_or, ap_not, ap_yes, ap_call, ap_lc, ap_noX, ap_iseq, ap_iown, ap_seq, th_nx, th_rt, th_exc, ap_skip, ap_set, ap_asg, ap_aug, ap_lm, ap_put, ap_oif, ap_ret, ap_drop, ap_raise, ap_gN, ap_gT, ap_gsN, ap_gsC, ap_app, Res.bind_ok, Res.bind_exc, Res.of_some, exOut_ok, exOut_exc, wipeE, Option.bind_some, List.length_cons, List.length_nil, List.getElem?_cons_zero, List.getElem?_cons_succ, List.set_cons_zero, List.set_cons_succ, List.map_cons, List.map_nil, addD, subD, cmpI, negD, modD, ap_lenL, ap_lenT, intD, int1, int2, walkD, if_true, if_false, decide_eq_true_eq, Bool.false_eq_true, reduceIte, Nat.reduceAdd, Nat.reduceSub, List.replicate_succ, List.replicate_zero, List.cons_append, List.nil_append, hrep, hk]
end K70

namespace K70
end K70
open PySem PySem.W PyProof.Rows
set_option maxHeartbeats 0 in
theorem PySem.Challenge.cw_suffixhouse_k70_first_differences_holds : PySem.Challenge.rw_suffixhouse_k70_first_differences.Holds := by
  w_on; o_law; k_head; (case hw => w_witness2)
  k_fill
  refine DL.walkG (l := PySem.Challenge.rw_suffixhouse_k70_first_differences) (n := 63) (qual := "law") (st := K70.s_law) (N := K70.n_law) (M1 := []) (o := K70.o_law) rfl (by decide) rfl (fun w h Y => PySem.W.kIn_of Y) K70.sc_law (by decide) ?F K70.math
  case F =>
    intro w mg fa h KX G hmg
    refine' K70.all_mk KX G hmg ?a_HouseError ?a_OutOfRange ?a_TooLong ?a_ini ?l_ini ?c_ini ?k_ini ?t_ini ?vV ?cl_HouseError ?bm_HouseErrorx ?sa_HouseError ?ex_HouseError ?ty_HouseError ?kc_HouseError ?at_HouseError ?ga_HouseError ?gg_HouseError ?hd_HouseError ?ca_HouseError ?mo_HouseError ?cl_OutOfRange ?bm_OutOfRangex ?sa_OutOfRange ?ex_OutOfRange ?ty_OutOfRange ?kc_OutOfRange ?in_OutOfRange ?at_OutOfRange ?ga_OutOfRange ?gg_OutOfRange ?hd_OutOfRange ?ca_OutOfRange ?mo_OutOfRange ?cl_TooLong ?bm_TooLongx ?sa_TooLong ?ex_TooLong ?ty_TooLong ?kc_TooLong ?in_TooLong ?at_TooLong ?ga_TooLong ?gg_TooLong ?hd_TooLong ?ca_TooLong ?mo_TooLong ?spx ?tkx ?s_HouseError_HouseError ?s_OutOfRange_HouseError ?s_TooLong_HouseError ?s_HouseError_OutOfRange ?s_OutOfRange_OutOfRange ?s_TooLong_OutOfRange ?s_HouseError_TooLong ?s_OutOfRange_TooLong ?s_TooLong_TooLong ?n_HouseError_OutOfRange ?n_TooLong_OutOfRange ?n_HouseError_TooLong ?n_OutOfRange_TooLong ?z_ValueError ?a_check_symbol ?l_check_symbol ?c_check_symbol ?k_check_symbol ?a_sizes ?l_sizes ?c_sizes ?k_sizes ?a_letters_from ?l_letters_from ?c_letters_from ?k_letters_from ?a_first_difference ?l_first_difference ?c_first_difference ?k_first_difference ?a__law_numbers ?l__law_numbers ?c__law_numbers ?k__law_numbers ?a__law_drawn ?l__law_drawn ?c__law_drawn ?k__law_drawn ?a__law_symbols ?l__law_symbols ?c__law_symbols ?k__law_symbols ?a__law_roots ?l__law_roots ?c__law_roots ?k__law_roots ?a__law_sizes ?l__law_sizes ?c__law_sizes ?k__law_sizes ?a__law_texts ?l__law_texts ?c__law_texts ?k__law_texts ?a__law_due ?l__law_due ?c__law_due ?k__law_due ?a__law_told ?l__law_told ?c__law_told ?k__law_told ?a__law_chains ?l__law_chains ?c__law_chains ?k__law_chains ?a_law ?l_law ?c_law ?k_law ?z_abs ?z_int ?z_isinstance ?z_len ?z_max ?z_min ?z_range ?z_repr ?z_sum ?g_MOST_COMPARED ?nolist
    (case a_HouseError => k_is)
    (case a_OutOfRange => k_is)
    (case a_TooLong => k_is)
    (case a_ini => k_is)
    (case l_ini => k_is)
    (case c_ini => k_is)
    (case k_ini => k_is)
    (case t_ini => k_is)
    (case vV => k_is)
    (case cl_HouseError => k_is)
    (case bm_HouseErrorx => decide +kernel)
    (case sa_HouseError => k_is)
    (case ex_HouseError => k_is)
    (case ty_HouseError => k_is)
    (case kc_HouseError => k_is)
    (case at_HouseError => k_is)
    (case ga_HouseError => k_is)
    (case gg_HouseError => k_is)
    (case hd_HouseError => k_is)
    (case ca_HouseError => k_is)
    (case mo_HouseError => k_is)
    (case cl_OutOfRange => k_is)
    (case bm_OutOfRangex => decide +kernel)
    (case sa_OutOfRange => k_is)
    (case ex_OutOfRange => k_is)
    (case ty_OutOfRange => k_is)
    (case kc_OutOfRange => k_is)
    (case in_OutOfRange => k_is)
    (case at_OutOfRange => k_is)
    (case ga_OutOfRange => k_is)
    (case gg_OutOfRange => k_is)
    (case hd_OutOfRange => k_is)
    (case ca_OutOfRange => k_is)
    (case mo_OutOfRange => k_is)
    (case cl_TooLong => k_is)
    (case bm_TooLongx => decide +kernel)
    (case sa_TooLong => k_is)
    (case ex_TooLong => k_is)
    (case ty_TooLong => k_is)
    (case kc_TooLong => k_is)
    (case in_TooLong => k_is)
    (case at_TooLong => k_is)
    (case ga_TooLong => k_is)
    (case gg_TooLong => k_is)
    (case hd_TooLong => k_is)
    (case ca_TooLong => k_is)
    (case mo_TooLong => k_is)
    (case spx => k_is)
    (case tkx => k_is)
    (case s_HouseError_HouseError => k_is)
    (case s_OutOfRange_HouseError => k_is)
    (case s_TooLong_HouseError => k_is)
    (case s_HouseError_OutOfRange => k_is)
    (case s_OutOfRange_OutOfRange => k_is)
    (case s_TooLong_OutOfRange => k_is)
    (case s_HouseError_TooLong => k_is)
    (case s_OutOfRange_TooLong => k_is)
    (case s_TooLong_TooLong => k_is)
    (case n_HouseError_OutOfRange => first | rfl | decide +kernel)
    (case n_TooLong_OutOfRange => first | rfl | decide +kernel)
    (case n_HouseError_TooLong => first | rfl | decide +kernel)
    (case n_OutOfRange_TooLong => first | rfl | decide +kernel)
    (case z_ValueError => k_is)
    (case a_check_symbol => k_is)
    (case l_check_symbol => k_is)
    (case c_check_symbol => k_is)
    (case k_check_symbol => k_is)
    (case a_sizes => k_is)
    (case l_sizes => k_is)
    (case c_sizes => k_is)
    (case k_sizes => k_is)
    (case a_letters_from => k_is)
    (case l_letters_from => k_is)
    (case c_letters_from => k_is)
    (case k_letters_from => k_is)
    (case a_first_difference => k_is)
    (case l_first_difference => k_is)
    (case c_first_difference => k_is)
    (case k_first_difference => k_is)
    (case a__law_numbers => k_is)
    (case l__law_numbers => k_is)
    (case c__law_numbers => k_is)
    (case k__law_numbers => k_is)
    (case a__law_drawn => k_is)
    (case l__law_drawn => k_is)
    (case c__law_drawn => k_is)
    (case k__law_drawn => k_is)
    (case a__law_symbols => k_is)
    (case l__law_symbols => k_is)
    (case c__law_symbols => k_is)
    (case k__law_symbols => k_is)
    (case a__law_roots => k_is)
    (case l__law_roots => k_is)
    (case c__law_roots => k_is)
    (case k__law_roots => k_is)
    (case a__law_sizes => k_is)
    (case l__law_sizes => k_is)
    (case c__law_sizes => k_is)
    (case k__law_sizes => k_is)
    (case a__law_texts => k_is)
    (case l__law_texts => k_is)
    (case c__law_texts => k_is)
    (case k__law_texts => k_is)
    (case a__law_due => k_is)
    (case l__law_due => k_is)
    (case c__law_due => k_is)
    (case k__law_due => k_is)
    (case a__law_told => k_is)
    (case l__law_told => k_is)
    (case c__law_told => k_is)
    (case k__law_told => k_is)
    (case a__law_chains => k_is)
    (case l__law_chains => k_is)
    (case c__law_chains => k_is)
    (case k__law_chains => k_is)
    (case a_law => k_is)
    (case l_law => k_is)
    (case c_law => k_is)
    (case k_law => k_is)
    (case z_abs => k_is)
    (case z_int => k_is)
    (case z_isinstance => k_is)
    (case z_len => k_is)
    (case z_max => k_is)
    (case z_min => k_is)
    (case z_range => k_is)
    (case z_repr => k_is)
    (case z_sum => k_is)
    (case g_MOST_COMPARED => k_is)
    (case nolist => first | rfl | decide +kernel)