import PyProof.Rows.All
import HandS.ForMost
import HandS.ForExc
import HandS.TupAny
import HandS.Deep
import HandS.Star
import HandS.IsInst
import HandS.ExcInit
import HandS.ExcIs
import HandS.ExcField
import KE.KExcIs
import HandS.Replace
import PyProof.LongRange
import PySem.Challenge.RW_suffixhouse_k67_places_counted_by_rules
set_option Elab.async false
set_option linter.all false
set_option maxRecDepth 100000
namespace DL
open PySem PySem.Spec L2

abbrev D := PyData
/-- addresses that are owned by someone: frozen data does not reach them -/
abbrev AS := Addr → Prop

inductive Res (α : Type) where
  | ok (a : α) | exc (c : Str) (at' : D) | err
def Res.bind {α β : Type} (x : Res α) (f : α → Res β) : Res β := match x with
  | .ok a => f a
  | .exc c d => .exc c d
  | .err => .err
instance : Monad Res where
  pure := Res.ok
  bind := Res.bind
@[simp] theorem Res.bind_ok {α β : Type} (a : α) (f : α → Res β) : (Res.ok a).bind f = f a := rfl
@[simp] theorem Res.bind_exc {α β : Type} (c : Str) (d : D) (f : α → Res β) : (Res.exc c d).bind f = .exc c d := rfl
@[simp] theorem Res.bind_err {α β : Type} (f : α → Res β) : (Res.err).bind f = .err := rfl

def kD : Key → D
  | .inl i => .int i
  | .inr x => .str x

mutual
inductive Rp (H : Hp) (O : AS) : D → V → Prop
  | non : Rp H O .none .non
  | bl (b : Bool) : Rp H O (.bool b) (.bl b)
  | int (i : Int) : Rp H O (.int i) (.int i)
  | str (x : Str) : Rp H O (.str x) (.str x)
  | lst {a : Addr} {xs : List V} {ds : List D} : ¬ O a → Rd H a (.lst xs) → RpA H O ds xs → Rp H O (.list ds) (.ref a)
  | tup {a : Addr} {xs : List V} {ds : List D} : ¬ O a → Rd H a (.tup xs) → RpA H O ds xs → Rp H O (.tuple ds) (.ref a)
  | dK {a : Addr} {kvs : List (Key × V)} {ds : List (D × D)} : ¬ O a → Rd H a (.dK kvs) → RpK H O ds kvs → Rp H O (.dict ds) (.ref a)
  | dT {a : Addr} {kvs : List (List Key × V)} {ds : List (D × D)} : ¬ O a → Rd H a (.dT kvs) → RpT H O ds kvs → Rp H O (.dict ds) (.ref a)
inductive RpA (H : Hp) (O : AS) : List D → List V → Prop
  | nil : RpA H O [] []
  | cons {d : D} {v : V} {ds : List D} {vs : List V} : Rp H O d v → RpA H O ds vs → RpA H O (d :: ds) (v :: vs)
inductive RpK (H : Hp) (O : AS) : List (D × D) → List (Key × V) → Prop
  | nil : RpK H O [] []
  | cons {k : Key} {d : D} {v : V} {ds : List (D × D)} {vs : List (Key × V)} : Rp H O d v → RpK H O ds vs → RpK H O ((kD k, d) :: ds) ((k, v) :: vs)
inductive RpT (H : Hp) (O : AS) : List (D × D) → List (List Key × V) → Prop
  | nil : RpT H O [] []
  | cons {k : List Key} {d : D} {v : V} {ds : List (D × D)} {vs : List (List Key × V)} : Rp H O d v → RpT H O ds vs → RpT H O ((.tuple (k.map kD), d) :: ds) ((k, v) :: vs)
end

/-- what is readable and not owned in H is so in H'; what is locked stays so -/
def Sub (H : Hp) (O : AS) (H' : Hp) (O' : AS) : Prop := (∀ a u, ¬ O a → Rd H a u → Rd H' a u ∧ ¬ O' a) ∧ ∀ a o u, ¬ O a → H a = some (.frz o u) → H' a = some (.frz o u)
theorem Sub.refl (H : Hp) (O : AS) : Sub H O H O := ⟨fun _ _ h r => ⟨r, h⟩, fun _ _ _ _ e => e⟩
theorem Sub.trans {H H1 H2 : Hp} {O O1 O2 : AS} (s : Sub H O H1 O1) (t : Sub H1 O1 H2 O2) : Sub H O H2 O2 := ⟨fun a u h r =>
  let ⟨r1, h1⟩ := s.1 a u h r
  t.1 a u h1 r1, fun a o u h e => t.2 a o u (s.1 a u h (.inr ⟨o, e⟩)).2 (s.2 a o u h e)⟩
theorem rd_same {H H' : Hp} {a : Addr} {u : HO} (s : Same H H') (r : Rd H a u) : Rd H' a u := by
  rcases r with r | ⟨o, r⟩
  · exact .inl (s _ _ r)
  · exact .inr ⟨o, s _ _ r⟩
theorem rd_ne_none {H : Hp} {a : Addr} {u : HO} (r : Rd H a u) : H a ≠ none := by
  rcases r with r | ⟨o, r⟩ <;> (rw [r]; exact fun h => nomatch h)
theorem Sub.same {H H' : Hp} (s : Same H H') (O : AS) : Sub H O H' O := ⟨fun _ _ h r => ⟨rd_same s r, h⟩, fun _ _ _ _ e => s _ _ e⟩
/-- a new address is owned -/
theorem Sub.more {H : Hp} {O : AS} {p : Addr} (h : H p = none) : Sub H O H (fun b => O b ∨ b = p) := ⟨fun a u ha r => ⟨r, fun z => by
  rcases z with z | z
  · exact ha z
  · subst z; exact rd_ne_none r h⟩, fun _ _ _ _ e => e⟩
theorem Sub.less {H : Hp} {O O' : AS} (h : ∀ a, O' a → O a) : Sub H O H O' := ⟨fun a u ha r => ⟨r, fun z => ha (h a z)⟩, fun _ _ _ _ e => e⟩
/-- an owned object is written -/
theorem Sub.upd {H : Hp} {O : AS} {p : Addr} {o : HO} (h : O p) : Sub H O (upd H p o) O := by
  have ne : ∀ a, ¬ O a → a ≠ p := fun a ha e => by subst e; exact ha h
  refine ⟨fun a u ha r => ⟨?_, ha⟩, fun a o u ha e => by rw [upd_ne (ne a ha)]; exact e⟩
  rcases r with r | ⟨o, r⟩
  · exact .inl (by rw [upd_ne (ne a ha)]; exact r)
  · exact .inr ⟨o, by rw [upd_ne (ne a ha)]; exact r⟩

section
variable {H H' : Hp} {O O' : AS}
mutual
theorem Rp.mono (s : Sub H O H' O') : ∀ {d : D} {v : V}, Rp H O d v → Rp H' O' d v
  | _, _, .non => .non
  | _, _, .bl b => .bl b
  | _, _, .int i => .int i
  | _, _, .str x => .str x
  | _, _, .lst h r q => .lst (s.1 _ _ h r).2 (s.1 _ _ h r).1 (RpA.mono s q)
  | _, _, .tup h r q => .tup (s.1 _ _ h r).2 (s.1 _ _ h r).1 (RpA.mono s q)
  | _, _, .dK h r q => .dK (s.1 _ _ h r).2 (s.1 _ _ h r).1 (RpK.mono s q)
  | _, _, .dT h r q => .dT (s.1 _ _ h r).2 (s.1 _ _ h r).1 (RpT.mono s q)
theorem RpA.mono (s : Sub H O H' O') : ∀ {ds : List D} {vs : List V}, RpA H O ds vs → RpA H' O' ds vs
  | _, _, .nil => .nil
  | _, _, .cons a b => .cons (Rp.mono s a) (RpA.mono s b)
theorem RpK.mono (s : Sub H O H' O') : ∀ {ds : List (D × D)} {vs : List (Key × V)}, RpK H O ds vs → RpK H' O' ds vs
  | _, _, .nil => .nil
  | _, _, .cons a b => .cons (Rp.mono s a) (RpK.mono s b)
theorem RpT.mono (s : Sub H O H' O') : ∀ {ds : List (D × D)} {vs : List (List Key × V)}, RpT H O ds vs → RpT H' O' ds vs
  | _, _, .nil => .nil
  | _, _, .cons a b => .cons (Rp.mono s a) (RpT.mono s b)
end
end

/-- the object at a, its content over what is not owned -/
inductive Rt (H : Hp) (O : AS) : D → Addr → Prop
  | lst {a : Addr} {xs : List V} {ds : List D} : H a = some (.lst xs) → RpA H O ds xs → Rt H O (.list ds) a
  | dK {a : Addr} {kvs : List (Key × V)} {ds : List (D × D)} : H a = some (.dK kvs) → RpK H O ds kvs → Rt H O (.dict ds) a
  | dT {a : Addr} {kvs : List (List Key × V)} {ds : List (D × D)} : H a = some (.dT kvs) → RpT H O ds kvs → Rt H O (.dict ds) a
/-- a value whose root may be owned -/
inductive Rc (H : Hp) (O : AS) : D → V → Prop
  | of {d : D} {v : V} : Rp H O d v → Rc H O d v
  | rt {d : D} {a : Addr} : Rt H O d a → Rc H O d (.ref a)

theorem Rt.mono {H H' : Hp} {O O' : AS} {d : D} {a : Addr} (s : Sub H O H' O') (e : H' a = H a) (r : Rt H O d a) : Rt H' O' d a := by
  cases r with
  | lst h q => exact .lst (e.trans h) (q.mono s)
  | dK h q => exact .dK (e.trans h) (q.mono s)
  | dT h q => exact .dT (e.trans h) (q.mono s)
theorem Rt.same {H H' : Hp} {O O' : AS} {d : D} {a : Addr} (s : Same H H') (t : Sub H O H' O') (r : Rt H O d a) : Rt H' O' d a := by
  cases r with
  | lst h q => exact .lst (s _ _ h) (q.mono t)
  | dK h q => exact .dK (s _ _ h) (q.mono t)
  | dT h q => exact .dT (s _ _ h) (q.mono t)
theorem Rc.same {H H' : Hp} {O : AS} {d : D} {v : V} (s : Same H H') (r : Rc H O d v) : Rc H' O d v := by
  cases r with
  | of r => exact .of (r.mono (Sub.same s O))
  | rt r => exact .rt (r.same s (Sub.same s O))
theorem Rc.mono {H H' : Hp} {O O' : AS} {d : D} {v : V} (s : Sub H O H' O') (e : ∀ a, H' a = H a) (r : Rc H O d v) : Rc H' O' d v := by
  cases r with
  | of r => exact .of (r.mono s)
  | rt r => exact .rt (r.mono s (e _))
theorem Rt.rp {H : Hp} {O O' : AS} {d : D} {a : Addr} (t : Sub H O H O') (h : ¬ O' a) (r : Rt H O d a) : Rp H O' d (.ref a) := by
  cases r with
  | lst e q => exact .lst h (.inl e) (q.mono t)
  | dK e q => exact .dK h (.inl e) (q.mono t)
  | dT e q => exact .dT h (.inl e) (q.mono t)

/-! ### the frame's state -/
inductive Md where
  | fz | ow | un | ex (a : Addr)
  deriving DecidableEq
abbrev Env' := List (Option D)
structure SR (H0 : Hp) (O0 : AS) (M : List Md) (O : AS) (env : Env') (σ : St) (H : Hp) : Prop where
  same : Same H0 H
  sub0 : ∀ a, O0 a → O a
  tr : ∀ a, O a → ∃ o, H a = some o ∧ Mut (some o)
  new : ∀ a, O a → O0 a ∨ H0 a = none
  len : env.length = σ.length
  fz : ∀ (i : Nat) (d : D), M[i]? = some .fz → env[i]? = some (some d) → ∃ v, σ[i]? = some (some v) ∧ Rp H O d v
  ow : ∀ (i : Nat) (d : D), M[i]? = some .ow → env[i]? = some (some d) → ∃ a, σ[i]? = some (some (.ref a)) ∧ O a ∧ ¬ O0 a ∧ Rt H O d a
  dist : ∀ (i j : Nat) (d e : D) (a : Addr), M[i]? = some .ow → M[j]? = some .ow → env[i]? = some (some d) → env[j]? = some (some e) → σ[i]? = some (some (.ref a)) → σ[j]? = some (some (.ref a)) → i = j
  exs : ∀ (i : Nat) (a : Addr), M[i]? = some (.ex a) → σ[i]? = some (some (.ref a))

theorem SR.grow {H0 H H' : Hp} {O0 O : AS} {M : List Md} {env : Env'} {σ : St} (r : SR H0 O0 M O env σ H) (s : Same H H') : SR H0 O0 M O env σ H' where
  same := r.same.trans s
  sub0 := r.sub0
  tr := fun a h => let ⟨o, e, m⟩ := r.tr a h; ⟨o, s _ _ e, m⟩
  new := r.new
  len := r.len
  fz := fun i d hm he => let ⟨v, e, q⟩ := r.fz i d hm he; ⟨v, e, q.mono (Sub.same s O)⟩
  ow := fun i d hm he => let ⟨a, e, h1, h2, q⟩ := r.ow i d hm he; ⟨a, e, h1, h2, q.same s (Sub.same s O)⟩
  dist := r.dist
  exs := r.exs

/-- the ground of a def: the heap and what is owned at its entry, the wish of an exception, the module's names -/
structure Gr (ex : Option (Addr × D)) where
  H0 : Hp
  O0 : AS
  hex : ∀ p, ex = some p → ∃ va, H0 p.1 = some (.xd [(("at" : Str), va)]) ∧ Rp H0 O0 p.2 va
/-- the wish of an exception, the module's names -/
structure Gd where
  W : WX
  mg : Str → Option Value
  ex : Option (Addr × D) := none

inductive Kd where
  | pl | co | fr
def RK (k : Kd) (H : Hp) (O : AS) (H' : Hp) (d : D) (v : V) : Prop := match k with
  | .pl => Rp H' O d v
  | .co => Rc H' O d v
  | .fr => ∃ a, v = .ref a ∧ H a = none ∧ Rt H' (fun b => O b ∨ b = a) d a
theorem RK.co {k : Kd} {H H' : Hp} {O : AS} {d : D} {v : V} (r : RK k H O H' d v) : Rc H' O d v := by
  cases k with
  | pl => exact .of r
  | co => exact r
  | fr =>
    obtain ⟨a, rfl, _, q⟩ := r
    cases q with
    | lst h q => exact .rt (.lst h (q.mono (Sub.less fun b z => .inl z)))
    | dK h q => exact .rt (.dK h (q.mono (Sub.less fun b z => .inl z)))
    | dT h q => exact .rt (.dT h (q.mono (Sub.less fun b z => .inl z)))
theorem RK.pl {H H' : Hp} {O : AS} {d : D} {v : V} (tr : ∀ a, O a → ∃ o, H a = some o ∧ Mut (some o)) (r : RK .fr H O H' d v) : Rp H' O d v := by
  obtain ⟨a, rfl, n, q⟩ := r
  refine q.rp (Sub.less fun b z => .inl z) fun z => ?_
  obtain ⟨o, e, _⟩ := tr a z
  rw [n] at e; cases e

/-- what is wanted of an exception -/
def XW (G : Gd) (O : AS) (σ : St) (H : Hp) (c : Str) (d : D) : Prop :=
  ∀ H' dd cls va, Same H H' → G.mg c = some cls → H' dd = some (.xd [(("at" : Str), va)]) → Rp H' O d va → G.W cls (some dd) σ H'
theorem XW.grow {G : Gd} {O : AS} {σ : St} {H H1 : Hp} {c : Str} {d : D} (s : Same H H1) (x : XW G O σ H c d) : XW G O σ H1 c d := fun H' dd cls va s' => x H' dd cls va (s.trans s')
def tE (G : Gd) (M : List Md) (k : Kd) (m : Env' → Res D) : TE := fun σ H Q => ∃ (g : Gr G.ex) (O : AS) (env : Env'), SR g.H0 g.O0 M O env σ H ∧ match m env with
  | .ok d => ∀ H' v, Same H H' → RK k H O H' d v → Q v H'
  | .exc c d => XW G O σ H c d
  | .err => False
def DE (X : Cx) (G : Gd) (M : List Md) (k : Kd) (e : Expr) (m : Env' → Res D) : Prop := PE X e (tE G M k m)

/-- weaker readings -/
theorem pe_imp {X : Cx} {e : Expr} {t t' : TE} (h : PE X e t) (i : ∀ σ H Q, t' σ H Q → t σ H Q) : PE X e t' := ⟨fun pins s σ H Q I q => h.run pins s σ H Q I (i σ H Q q)⟩
theorem DE.co {X : Cx} {G : Gd} {M : List Md} {k : Kd} {e : Expr} {m : Env' → Res D} (h : DE X G M k e m) : DE X G M .co e m := pe_imp h fun σ H Q ⟨g, O, env, sr, q⟩ => by
  refine ⟨g, O, env, sr, ?_⟩
  cases hm : m env with
  | ok d => rw [hm] at q; exact fun H' v s r => q H' v s r.co
  | exc c d => rw [hm] at q; exact q
  | err => rw [hm] at q; exact q
theorem DE.pl {X : Cx} {G : Gd} {M : List Md} {e : Expr} {m : Env' → Res D} (h : DE X G M .fr e m) : DE X G M .pl e m := pe_imp h fun σ H Q ⟨g, O, env, sr, q⟩ => by
  refine ⟨g, O, env, sr, ?_⟩
  cases hm : m env with
  | ok d => rw [hm] at q; exact fun H' v s r => q H' v s (r.pl sr.tr)
  | exc c d => rw [hm] at q; exact q
  | err => rw [hm] at q; exact q
end DL

namespace DL
open PySem PySem.Spec L2

def Res.of {α : Type} : Option α → Res α
  | some a => .ok a
  | none => .err
@[simp] theorem Res.of_some {α : Type} (a : α) : Res.of (some a) = .ok a := rfl
@[simp] theorem Res.of_none {α : Type} : (Res.of (none : Option α)) = .err := rfl

abbrev Trk (H : Hp) (O : AS) : Prop := ∀ a, O a → ∃ o, H a = some o ∧ Mut (some o)
theorem Trk.grow {H H' : Hp} {O : AS} (t : Trk H O) (s : Same H H') : Trk H' O := fun a h => let ⟨o, e, m⟩ := t a h; ⟨o, s _ _ e, m⟩
theorem Trk.not {H : Hp} {O : AS} (t : Trk H O) {p : Addr} (h : H p = none) : ¬ O p := fun z => by
  obtain ⟨o, e, _⟩ := t p z
  rw [h] at e; cases e
theorem same_new {H : Hp} {p : Addr} {o : HO} (h : H p = none) : Same H (upd H p o) := fun b u e => by
  rw [upd_ne (ne_of_none e h)]; exact e

theorem RK.back {k : Kd} {H H1 H' : Hp} {O : AS} {d : D} {v : V} (s : Same H H1) (r : RK k H1 O H' d v) : RK k H O H' d v := by
  cases k with
  | pl => exact r
  | co => exact r
  | fr => obtain ⟨a, e, n, q⟩ := r; exact ⟨a, e, s.free n, q⟩

section
variable {X : Cx} {G : Gd} {M : List Md} {k : Kd}
def B2 (k : Kd) (r : R2) (f : D → D → Option D) : Prop := ∀ {H : Hp} {O : AS} {x y : V} {dx dy d : D} {Q : VK}, Trk H O → Rc H O dx x → Rc H O dy y → f dx dy = some d →
  (∀ H' v, Same H H' → RK k H O H' d v → Q v H') → r x y H Q
def m2 (f : D → D → Option D) (ma mb : Env' → Res D) : Env' → Res D := fun env => (ma env).bind fun x => (mb env).bind fun y => Res.of (f x y)
theorem tOp_ok {r : R2} {f : D → D → Option D} {ma mb : Env' → Res D} (hB : B2 k r f) (σ : L2.St) (H : Hp) (Q : VK) (h : tE G M k (m2 f ma mb) σ H Q) : tOp r (tE G M .co ma) (tE G M .co mb) σ H Q := by
  obtain ⟨g, O, env, sr, q⟩ := h
  refine ⟨g, O, env, sr, ?_⟩
  unfold m2 at q
  cases ha : ma env with
  | err => rw [ha] at q; exact q
  | exc c d => rw [ha] at q; exact q
  | ok x =>
    rw [ha, Res.bind_ok] at q
    intro H1 v1 s1 r1
    refine ⟨g, O, env, sr.grow s1, ?_⟩
    cases hb : mb env with
    | err => rw [hb] at q; exact q
    | exc c d => rw [hb] at q; exact XW.grow s1 q
    | ok y =>
      rw [hb, Res.bind_ok] at q
      intro H2 v2 s2 r2
      cases hf : f x y with
      | none => rw [hf] at q; exact q.elim
      | some d =>
        rw [hf] at q
        exact hB (Trk.grow sr.tr (s1.trans s2)) (Rc.same s2 r1) r2 hf fun H' v s r => q H' v ((s1.trans s2).trans s) (RK.back (s1.trans s2) r)
def U1 (k : Kd) (r : V → Hp → VK → Prop) (f : D → Option D) : Prop := ∀ {H : Hp} {O : AS} {x : V} {dx d : D} {Q : VK}, Trk H O → Rc H O dx x → f dx = some d →
  (∀ H' v, Same H H' → RK k H O H' d v → Q v H') → r x H Q
def m1 (f : D → Option D) (ma : Env' → Res D) : Env' → Res D := fun env => (ma env).bind fun x => Res.of (f x)
theorem tUn_ok {r : V → Hp → VK → Prop} {f : D → Option D} {ma : Env' → Res D} (hB : U1 k r f) (σ : L2.St) (H : Hp) (Q : VK) (h : tE G M k (m1 f ma) σ H Q) : tUn r (tE G M .co ma) σ H Q := by
  obtain ⟨g, O, env, sr, q⟩ := h
  refine ⟨g, O, env, sr, ?_⟩
  unfold m1 at q
  cases ha : ma env with
  | err => rw [ha] at q; exact q
  | exc c d => rw [ha] at q; exact q
  | ok x =>
    rw [ha, Res.bind_ok] at q
    intro H1 v1 s1 r1
    cases hf : f x with
    | none => rw [hf] at q; exact q.elim
    | some d =>
      rw [hf] at q
      exact hB (Trk.grow sr.tr s1) r1 hf fun H' v s r => q H' v (s1.trans s) (RK.back s1 r)

/-! ### names and constants -/
def mVar (i : Nat) : Env' → Res D := fun env => match env[i]? with
  | some (some d) => .ok d
  | _ => .err
def mC (d : D) : Env' → Res D := fun _ => .ok d
/-- a frozen slot -/
theorem de_var {i : Nat} {e : Expr} (h : PE X e (tVar i)) (hm : M[i]? = some .fz) : DE X G M .pl e (mVar i) := pe_imp h fun σ H Q ⟨g, O, env, sr, q⟩ => by
  unfold mVar at q
  cases he : env[i]? with
  | none => rw [he] at q; exact q.elim
  | some o =>
    cases o with
    | none => rw [he] at q; exact q.elim
    | some d =>
      rw [he] at q
      obtain ⟨v, ev, r⟩ := sr.fz i d hm he
      exact ⟨v, ev, q H v (Same.refl H) r⟩
/-- an owned slot, looked at -/
theorem de_varO {i : Nat} {e : Expr} (h : PE X e (tVar i)) (hm : M[i]? = some .ow) : DE X G M .co e (mVar i) := pe_imp h fun σ H Q ⟨g, O, env, sr, q⟩ => by
  unfold mVar at q
  cases he : env[i]? with
  | none => rw [he] at q; exact q.elim
  | some o =>
    cases o with
    | none => rw [he] at q; exact q.elim
    | some d =>
      rw [he] at q
      obtain ⟨a, ev, _, _, r⟩ := sr.ow i d hm he
      exact ⟨_, ev, q H _ (Same.refl H) (.rt r)⟩
theorem de_c {e : Expr} {v : V} {d : D} (h : PE X e (tC v)) (r : ∀ H O, Rp H O d v) : DE X G M .pl e (mC d) := pe_imp h fun σ H Q ⟨g, O, env, sr, q⟩ => q H v (Same.refl H) (r H O)
theorem de_int {i : Int} {j pos} : DE X G M .pl (.Constant (.int i) j pos) (mC (.int i)) := de_c pe_int fun _ _ => .int i
theorem de_bl {b : Bool} {j pos} : DE X G M .pl (.Constant (.bool b) j pos) (mC (.bool b)) := de_c pe_bl fun _ _ => .bl b
theorem de_non {j pos} : DE X G M .pl (.Constant .none j pos) (mC .none) := de_c pe_non fun _ _ => .non
theorem de_str {x : Str} {j pos} : DE X G M .pl (.Constant (.str x) j pos) (mC (.str x)) := de_c pe_str fun _ _ => .str x

/-! ### operators -/
theorem Rc.int_inv {H : Hp} {O : AS} {i : Int} {v : V} (r : Rc H O (.int i) v) : v = .int i := by
  cases r with
  | of r => cases r; rfl
  | rt r => cases r
theorem Rc.str_inv {H : Hp} {O : AS} {x : Str} {v : V} (r : Rc H O (.str x) v) : v = .str x := by
  cases r with
  | of r => cases r; rfl
  | rt r => cases r
theorem Rc.bl_inv {H : Hp} {O : AS} {b : Bool} {v : V} (r : Rc H O (.bool b) v) : v = .bl b := by
  cases r with
  | of r => cases r; rfl
  | rt r => cases r
theorem Rc.non_inv {H : Hp} {O : AS} {v : V} (r : Rc H O .none v) : v = .non := by
  cases r with
  | of r => cases r; rfl
  | rt r => cases r
theorem Rc.list_inv {H : Hp} {O : AS} {ds : List D} {v : V} (r : Rc H O (.list ds) v) : ∃ a xs, v = .ref a ∧ Rd H a (.lst xs) ∧ RpA H O ds xs := by
  cases r with
  | of r => cases r with | lst h e q => exact ⟨_, _, rfl, e, q⟩
  | rt r => cases r with | lst e q => exact ⟨_, _, rfl, .inl e, q⟩
theorem Rc.tuple_inv {H : Hp} {O : AS} {ds : List D} {v : V} (r : Rc H O (.tuple ds) v) : ∃ a xs, v = .ref a ∧ Rd H a (.tup xs) ∧ RpA H O ds xs := by
  cases r with
  | of r => cases r with | tup h e q => exact ⟨_, _, rfl, e, q⟩
  | rt r => cases r
theorem Rd.seqL {K : PySem.W.Frag} {H : Hp} {a : Addr} {xs : List V} (r : L2.Rd H a (.lst xs)) : SqL K H a xs := .inl r
theorem Rd.seqT {K : PySem.W.Frag} {H : Hp} {a : Addr} {xs : List V} (r : L2.Rd H a (.tup xs)) : SqT K H a xs := .inl r
theorem RpA.length {H : Hp} {O : AS} : ∀ {ds : List D} {vs : List V}, RpA H O ds vs → ds.length = vs.length
  | _, _, .nil => rfl
  | _, _, .cons _ t => congrArg (· + 1) (RpA.length t)
theorem RpA.append {H : Hp} {O : AS} : ∀ {ds es : List D} {vs ws : List V}, RpA H O ds vs → RpA H O es ws → RpA H O (ds ++ es) (vs ++ ws)
  | _, _, _, _, .nil, t => t
  | _, _, _, _, .cons a b, t => .cons a (RpA.append b t)
theorem RpA.get {H : Hp} {O : AS} : ∀ {ds : List D} {vs : List V} {i : Nat} {d : D}, RpA H O ds vs → ds[i]? = some d → ∃ v, vs[i]? = some v ∧ Rp H O d v
  | _, _, i, _, .nil, e => by simp at e
  | _, _, 0, _, .cons a b, e => by simp at e; subst e; exact ⟨_, rfl, a⟩
  | _, _, i + 1, _, .cons a b, e => by
    simp only [List.getElem?_cons_succ] at e ⊢
    exact RpA.get b e
theorem RpA.take {H : Hp} {O : AS} : ∀ {ds : List D} {vs : List V} (n : Nat), RpA H O ds vs → RpA H O (ds.take n) (vs.take n)
  | _, _, 0, _ => by simpa using RpA.nil
  | _, _, n + 1, .nil => by simpa using RpA.nil
  | _, _, n + 1, .cons a b => by simpa using RpA.cons a (RpA.take n b)
theorem RpA.drop {H : Hp} {O : AS} : ∀ {ds : List D} {vs : List V} (n : Nat), RpA H O ds vs → RpA H O (ds.drop n) (vs.drop n)
  | _, _, 0, h => by simpa using h
  | _, _, n + 1, .nil => by simpa using RpA.nil
  | _, _, n + 1, .cons a b => by simpa using RpA.drop n b
theorem RpA.set {H : Hp} {O : AS} {d : D} {v : V} (r : Rp H O d v) : ∀ {ds : List D} {vs : List V} (n : Nat), RpA H O ds vs → RpA H O (ds.set n d) (vs.set n v)
  | _, _, n, .nil => by simpa using RpA.nil
  | _, _, 0, .cons a b => by simpa using RpA.cons r b
  | _, _, n + 1, .cons a b => by simpa using RpA.cons a (RpA.set r n b)
theorem RpA.reverse {H : Hp} {O : AS} : ∀ {ds : List D} {vs : List V}, RpA H O ds vs → RpA H O ds.reverse vs.reverse
  | _, _, .nil => .nil
  | _, _, .cons a b => by simpa using (RpA.reverse b).append (.cons a .nil)

/-- a new list at p, its items -/
theorem fr_list {H : Hp} {O : AS} {p : Addr} {ds : List D} {vs : List V} (tr : Trk H O) (hp : H p = none) (r : RpA H O ds vs) : RK .fr H O (upd H p (.lst vs)) (.list ds) (.ref p) :=
  ⟨p, rfl, hp, .lst upd_same (r.mono ((Sub.more hp).trans (Sub.same (same_new hp) _)))⟩
theorem pl_list {H : Hp} {O : AS} {p : Addr} {ds : List D} {vs : List V} (tr : Trk H O) (hp : H p = none) (r : RpA H O ds vs) : Rp (upd H p (.lst vs)) O (.list ds) (.ref p) :=
  RK.pl tr (fr_list tr hp r)
theorem pl_tup {H : Hp} {O : AS} {p : Addr} {ds : List D} {vs : List V} (tr : Trk H O) (hp : H p = none) (r : RpA H O ds vs) : Rp (upd H p (.tup vs)) O (.tuple ds) (.ref p) :=
  .tup (tr.not hp) (.inl upd_same) (r.mono (Sub.same (same_new hp) _))

/-- list + list, read in any way -/
def rCat2 : R2 := fun x y H Q => ∃ l b xs zs, x = .ref l ∧ y = .ref b ∧ L2.Rd H l (.lst xs) ∧ L2.Rd H b (.lst zs) ∧ xs.length + zs.length ≤ sizeLine ∧ ∀ p, H p = none → Q (.ref p) (upd H p (.lst (xs ++ zs)))
theorem op_cat2 : OpR X (binaryOp .Add) rCat2 := by
  intro pins s σ H x y v u Q I rx ry h
  obtain ⟨l, b, xs, zs, rfl, rfl, hH, hB, hz, q⟩ := h
  cases rx
  cases ry
  obtain ⟨z, its, n, r, e⟩ := hH.ok I.hok
  obtain ⟨z2, its2, n2, r2, e2⟩ := hB.ok I.hok
  have hl := r.length
  have hl2 := r2.length
  refine PySem.P.add_list e e2 ?_ (by rw [List.size_toArray, List.size_toArray]; omega)
  have ea : its.toArray ++ its2.toArray = (its ++ its2).toArray := by simp
  rw [ea]
  exact ⟨.ref _, _, I.lnew (t' := s.toks) (r.append r2) (by rw [List.length_append]; omega), rfl, q _ I.fresh⟩
end
end DL

namespace DL
open PySem PySem.Spec L2
section
variable {X : Cx} {G : Gd} {M : List Md} {k : Kd} {ka kb kc : Kd} {a b c : Expr} {ma mb mc : Env' → Res D} {pos : Pos}

/-! ### binary operators -/
theorem de_op {op : Operator} {r : R2} {f : D → D → Option D} (ho : OpR X (binaryOp op) r) (hB : B2 k r f) (ha : DE X G M ka a ma) (hb : DE X G M kb b mb) : DE X G M k (.BinOp a op b pos) (m2 f ma mb) :=
  pe_imp (pe_op ho ha.co hb.co) (tOp_ok hB)
def addD : D → D → Option D
  | .int i, .int j => some (.int (i + j))
  | .str x, .str y => if x.length + y.length ≤ sizeLine then some (.str (x ++ y)) else none
  | .list x, .list y => if x.length + y.length ≤ sizeLine then some (.list (x ++ y)) else none
  | .tuple x, .tuple y => if x.length + y.length ≤ sizeLine then some (.tuple (x ++ y)) else none
  | _, _ => none
def rAddS : R2 := fun x y H Q => ∃ i j, x = .str i ∧ y = .str j ∧ i.length + j.length ≤ sizeLine ∧ Q (.str (i ++ j)) H
def rAddAll (K : PySem.W.Frag) : R2 := fun x y H Q => rI0 (fun i j => .int (i + j)) x y H Q ∨ rAddS x y H Q ∨ rCat2 x y H Q ∨ rCatA K x y H Q
theorem op_addAll : OpR X (binaryOp .Add) (rAddAll X.K) := op_add.or (op_add_str.or (op_cat2.or op_catA))
theorem RpA.nil_iff {H : Hp} {O : AS} {ds : List D} {vs : List V} (r : RpA H O ds vs) : ds = [] ↔ vs = [] := by
  cases r <;> simp
theorem b2_add : B2 .pl (rAddAll X.K) addD := by
  intro H O x y dx dy d Q tr rx ry hf q
  cases dx <;> cases dy <;> simp only [addD] at hf <;> try cases hf
  case int.int i j =>
    cases rx.int_inv; cases ry.int_inv
    exact .inl ⟨i, j, rfl, rfl, q H _ (Same.refl H) (.int _)⟩
  case str.str i j =>
    cases rx.str_inv; cases ry.str_inv
    split at hf <;> cases hf
    rename_i hz
    exact .inr (.inl ⟨i, j, rfl, rfl, hz, q H _ (Same.refl H) (.str _)⟩)
  case list.list ds es =>
    obtain ⟨p, xs, rfl, e1, r1⟩ := rx.list_inv
    obtain ⟨p2, ys, rfl, e2, r2⟩ := ry.list_inv
    split at hf <;> cases hf
    rename_i hz
    exact .inr (.inr (.inl ⟨p, p2, xs, ys, rfl, rfl, e1, e2, by rw [← r1.length, ← r2.length]; exact hz, fun l hl => q _ _ (same_new hl) (pl_list tr hl (r1.append r2))⟩))
  case tuple.tuple ds es =>
    obtain ⟨p, xs, rfl, e1, r1⟩ := rx.tuple_inv
    obtain ⟨p2, ys, rfl, e2, r2⟩ := ry.tuple_inv
    split at hf <;> cases hf
    rename_i hz
    refine .inr (.inr (.inr ⟨p, p2, xs, ys, rfl, rfl, Rd.seqT e1, Rd.seqT e2, by rw [← r1.length, ← r2.length]; exact hz, fun hx => ?_, fun _ hy => ?_, fun _ _ l hl => q _ _ (same_new hl) (pl_tup tr hl (r1.append r2))⟩))
    · have : ds = [] := r1.nil_iff.mpr hx
      subst this
      cases ry with
      | of r => exact q H _ (Same.refl H) r
      | rt r => cases r
    · have : es = [] := r2.nil_iff.mpr hy
      subst this
      rw [List.append_nil] at q
      cases rx with
      | of r => exact q H _ (Same.refl H) r
      | rt r => cases r
/-- a list made by +, owned -/
theorem b2_cat : B2 .fr rCat2 (fun x y => match x, y with | .list x, .list y => if x.length + y.length ≤ sizeLine then some (.list (x ++ y)) else none | _, _ => none) := by
  intro H O x y dx dy d Q tr rx ry hf q
  cases dx <;> cases dy <;> simp only at hf <;> try cases hf
  case list.list ds es =>
    obtain ⟨p, xs, rfl, e1, r1⟩ := rx.list_inv
    obtain ⟨p2, ys, rfl, e2, r2⟩ := ry.list_inv
    split at hf <;> cases hf
    rename_i hz
    exact ⟨p, p2, xs, ys, rfl, rfl, e1, e2, by rw [← r1.length, ← r2.length]; exact hz, fun l hl => q _ _ (same_new hl) (fr_list tr hl (r1.append r2))⟩
theorem de_add (ha : DE X G M ka a ma) (hb : DE X G M kb b mb) : DE X G M .pl (.BinOp a .Add b pos) (m2 addD ma mb) := de_op op_addAll b2_add ha hb
theorem b2_ints {g : Int → Int → Int} {C : Int → Int → Prop} [∀ i j, Decidable (C i j)] : B2 .pl (rI C fun i j => .int (g i j)) (fun x y => match x, y with | .int i, .int j => if C i j then some (.int (g i j)) else none | _, _ => none) := by
  intro H O x y dx dy d Q tr rx ry hf q
  cases dx <;> cases dy <;> simp only at hf <;> try cases hf
  case int.int i j =>
    cases rx.int_inv; cases ry.int_inv
    split at hf <;> cases hf
    rename_i hc
    exact ⟨i, j, rfl, rfl, hc, q H _ (Same.refl H) (.int _)⟩
def subD : D → D → Option D
  | .int i, .int j => some (.int (i - j))
  | _, _ => none
theorem b2_sub : B2 .pl (rI0 fun i j => .int (i - j)) subD := by
  intro H O x y dx dy d Q tr rx ry hf q
  cases dx <;> cases dy <;> simp only [subD] at hf <;> try cases hf
  case int.int i j =>
    cases rx.int_inv; cases ry.int_inv
    exact ⟨i, j, rfl, rfl, q H _ (Same.refl H) (.int _)⟩
theorem de_sub (ha : DE X G M ka a ma) (hb : DE X G M kb b mb) : DE X G M .pl (.BinOp a .Sub b pos) (m2 subD ma mb) := de_op op_sub b2_sub ha hb
instance decMul (i j : Int) : Decidable (CMul i j) := by unfold CMul; exact inferInstance
instance decDiv (i j : Int) : Decidable (CDiv i j) := by unfold CDiv; exact inferInstance
instance decPow (i j : Int) : Decidable (CPow i j) := by unfold CPow; exact inferInstance
def repS (x : Str) (n : Nat) : Str := ⟨(List.replicate n x.cps.toList).flatten.toArray⟩
def mulD : D → D → Option D
  | .int i, .int j => if CMul i j then some (.int (i * j)) else none
  | .list xs, .int j => if -(2 ^ 63) ≤ j ∧ j < 2 ^ 63 ∧ xs.length * j.toNat ≤ sizeLine then some (.list (List.replicate j.toNat xs).flatten) else none
  | _, _ => none
def rRep2 : R2 := fun x y H Q => ∃ l k xs, x = .ref l ∧ y = .int k ∧ L2.Rd H l (.lst xs) ∧ -(2 ^ 63) ≤ k ∧ k < 2 ^ 63 ∧ xs.length * k.toNat ≤ sizeLine ∧
  ∀ p, H p = none → Q (.ref p) (upd H p (.lst (List.replicate k.toNat xs).flatten))
def modD : D → D → Option D
  | .int i, .int j => if 0 < j then some (.int (i % j)) else none
  | _, _ => none
theorem b2_mod : B2 .pl (rI (fun _ j => 0 < j) fun i j => .int (i % j)) modD := b2_ints
def fdivD : D → D → Option D
  | .int i, .int j => if CDiv i j then some (.int (i / j)) else none
  | _, _ => none
theorem b2_fdiv : B2 .pl (rI CDiv fun i j => .int (i / j)) fdivD := b2_ints
def powD : D → D → Option D
  | .int i, .int j => if CPow i j then some (.int (i ^ j.toNat)) else none
  | _, _ => none
theorem b2_pow : B2 .pl (rI CPow fun i j => .int (i ^ j.toNat)) powD := b2_ints
def mulI : D → D → Option D
  | .int i, .int j => if CMul i j then some (.int (i * j)) else none
  | _, _ => none
theorem b2_mulI : B2 .pl (rI CMul fun i j => .int (i * j)) mulI := b2_ints
theorem de_mod (ha : DE X G M ka a ma) (hb : DE X G M kb b mb) : DE X G M .pl (.BinOp a .Mod b pos) (m2 modD ma mb) := de_op op_mod b2_mod ha hb
theorem de_fdiv (ha : DE X G M ka a ma) (hb : DE X G M kb b mb) : DE X G M .pl (.BinOp a .FloorDiv b pos) (m2 fdivD ma mb) := de_op op_fdiv b2_fdiv ha hb
theorem de_pow (ha : DE X G M ka a ma) (hb : DE X G M kb b mb) : DE X G M .pl (.BinOp a .Pow b pos) (m2 powD ma mb) := de_op op_pow b2_pow ha hb
theorem de_mulI (ha : DE X G M ka a ma) (hb : DE X G M kb b mb) : DE X G M .pl (.BinOp a .Mult b pos) (m2 mulI ma mb) := de_op op_mul b2_mulI ha hb
def negD : D → Option D
  | .int i => some (.int (-i))
  | _ => none
theorem u1_neg : U1 .pl (rU fun i => .int (-i)) negD := by
  intro H O x dx d Q tr rx hf q
  cases dx <;> simp only [negD] at hf <;> try cases hf
  cases rx.int_inv
  exact ⟨_, rfl, q H _ (Same.refl H) (.int _)⟩
theorem de_neg (ha : DE X G M ka a ma) : DE X G M .pl (.UnaryOp .USub a pos) (m1 negD ma) := pe_imp (pe_un un_neg ha.co) (tUn_ok u1_neg)

/-! ### comparisons -/
theorem de_cmp {op : CmpOp} {r : R2} {f : D → D → Option D} (ho : OpR X (compareOp op) r) (hB : B2 k r f) (ha : DE X G M ka a ma) (hb : DE X G M kb b mb) (hm : behindInMarks op b = false) : DE X G M k (.Compare a [op] [b] pos) (m2 f ma mb) :=
  pe_imp (pe_cmpR ho ha.co hb.co hm) (tOp_ok hB)
theorem b2_cmpI {p : Int → Int → Bool} {f : D → D → Option D} (hf : ∀ x y d, f x y = some d → ∃ i j, x = .int i ∧ y = .int j ∧ d = .bool (p i j)) : B2 .pl (rI0 fun i j => .bl (p i j)) f := by
  intro H O x y dx dy d Q tr rx ry e q
  obtain ⟨i, j, rfl, rfl, rfl⟩ := hf _ _ _ e
  cases rx.int_inv; cases ry.int_inv
  exact ⟨i, j, rfl, rfl, q H _ (Same.refl H) (.bl _)⟩
def cmpI (p : Int → Int → Bool) : D → D → Option D
  | .int i, .int j => some (.bool (p i j))
  | _, _ => none
theorem cmpI_inv {p : Int → Int → Bool} (x y d : D) (h : cmpI p x y = some d) : ∃ i j, x = .int i ∧ y = .int j ∧ d = .bool (p i j) := by
  cases x <;> cases y <;> simp only [cmpI] at h <;> cases h
  exact ⟨_, _, rfl, rfl, rfl⟩
abbrev ltI := cmpI fun i j => decide (i < j)
abbrev leI := cmpI fun i j => decide (i ≤ j)
abbrev gtI := cmpI fun i j => decide (j < i)
abbrev geI := cmpI fun i j => decide (j ≤ i)
theorem b2_lt : B2 .pl (rI0 fun i j => .bl (decide (i < j))) ltI := b2_cmpI cmpI_inv
theorem b2_le : B2 .pl (rI0 fun i j => .bl (decide (i ≤ j))) leI := b2_cmpI cmpI_inv
theorem b2_gt : B2 .pl (rI0 fun i j => .bl (decide (j < i))) gtI := b2_cmpI cmpI_inv
theorem b2_ge : B2 .pl (rI0 fun i j => .bl (decide (j ≤ i))) geI := b2_cmpI cmpI_inv
theorem de_lt (ha : DE X G M ka a ma) (hb : DE X G M kb b mb) : DE X G M .pl (.Compare a [.Lt] [b] pos) (m2 ltI ma mb) := de_cmp op_lt b2_lt ha hb (nomark _)
theorem de_le (ha : DE X G M ka a ma) (hb : DE X G M kb b mb) : DE X G M .pl (.Compare a [.LtE] [b] pos) (m2 leI ma mb) := de_cmp op_le b2_le ha hb (nomark _)
theorem de_gt (ha : DE X G M ka a ma) (hb : DE X G M kb b mb) : DE X G M .pl (.Compare a [.Gt] [b] pos) (m2 gtI ma mb) := de_cmp op_gt b2_gt ha hb (nomark _)
theorem de_ge (ha : DE X G M ka a ma) (hb : DE X G M kb b mb) : DE X G M .pl (.Compare a [.GtE] [b] pos) (m2 geI ma mb) := de_cmp op_ge b2_ge ha hb (nomark _)

/-! deep data -/
mutual
theorem Rp.dp {K : PySem.W.Frag} {H : Hp} {O : AS} : ∀ {d : D} {v : V}, Rp H O d v → PyData.canLay0 d = true → Dp K H v d
  | _, _, .non, _ => .non
  | _, _, .bl b, _ => .bl b
  | _, _, .int i, _ => .int i
  | _, _, .str x, _ => .str x
  | _, _, .lst _ r q, h => .lst (Rd.seqL r) (RpA.dp q h)
  | _, _, .tup _ r q, h => .tup (Rd.seqT r) (RpA.dp q h)
  | _, _, .dK _ _ _, h => nomatch h
  | _, _, .dT _ _ _, h => nomatch h
theorem RpA.dp {K : PySem.W.Frag} {H : Hp} {O : AS} : ∀ {ds : List D} {vs : List V}, RpA H O ds vs → PyData.canLayAll0 ds = true → DpAll K H vs ds
  | _, _, .nil, _ => .nil
  | _, _, .cons a b, h => .cons (Rp.dp a (Bool.and_eq_true_iff.mp h).1) (RpA.dp b (Bool.and_eq_true_iff.mp h).2)
end
theorem Rc.dp {K : PySem.W.Frag} {H : Hp} {O : AS} {d : D} {v : V} (r : Rc H O d v) (h : PyData.canLay0 d = true) : Dp K H v d := by
  cases r with
  | of r => exact r.dp h
  | rt r =>
    cases r with
    | lst e q => exact .lst (.inl (.inl e)) (q.dp h)
    | dK e q => cases h
    | dT e q => cases h
theorem canLay_of_shaped {d : D} (h : SeqAt.shaped d = true) : PyData.canLay0 d = true := SeqAt.canLay_of_shaped h
/-- == of data; ints and texts need no shape -/
def eqB : D → D → Option Bool
  | .int i, .int j => some (decide (i = j))
  | .str i, .str j => some (decide (i = j))
  | .bool i, .bool j => some (decide (i = j))
  | .none, .none => some true
  | .none, .int _ => some false
  | .int _, .none => some false
  | .none, .str _ => some false
  | .str _, .none => some false
  | .int _, .str _ => some false
  | .str _, .int _ => some false
  | x, y => if SeqAt.shaped x && SeqAt.shaped y then some (PyData.eqv x y) else none
def eqD (x y : D) : Option D := (eqB x y).map .bool
def neD (x y : D) : Option D := (eqB x y).map fun b => .bool !b
def rEqA (K : PySem.W.Frag) : R2 := fun x y H Q => rEq x y H Q ∨ rEqD K x y H Q
def rNeA (K : PySem.W.Frag) : R2 := fun x y H Q => rNe x y H Q ∨ rNeD K x y H Q
theorem eqB_ok {K : PySem.W.Frag} {H : Hp} {O : AS} {x y : V} {dx dy : D} {t : Bool} (rx : Rc H O dx x) (ry : Rc H O dy y) (h : eqB dx dy = some t) :
    (scal x y = true ∧ decide (x = y) = t) ∨ ∃ d e, Dp K H x d ∧ Dp K H y e ∧ SeqAt.shaped d = true ∧ SeqAt.shaped e = true ∧ PyData.eqv d e = t := by
  unfold eqB at h
  split at h
  · cases rx.int_inv; cases ry.int_inv; cases h; exact .inl ⟨rfl, by simp⟩
  · cases rx.str_inv; cases ry.str_inv; cases h; exact .inl ⟨rfl, by simp⟩
  · cases rx.bl_inv; cases ry.bl_inv; cases h; exact .inl ⟨rfl, by simp⟩
  · cases rx.non_inv; cases ry.non_inv; cases h; exact .inl ⟨rfl, by simp⟩
  · cases rx.non_inv; cases ry.int_inv; cases h; exact .inl ⟨rfl, by simp⟩
  · cases rx.int_inv; cases ry.non_inv; cases h; exact .inl ⟨rfl, by simp⟩
  · cases rx.non_inv; cases ry.str_inv; cases h; exact .inl ⟨rfl, by simp⟩
  · cases rx.str_inv; cases ry.non_inv; cases h; exact .inl ⟨rfl, by simp⟩
  · cases rx.int_inv; cases ry.str_inv; cases h; exact .inl ⟨rfl, by simp⟩
  · cases rx.str_inv; cases ry.int_inv; cases h; exact .inl ⟨rfl, by simp⟩
  · split at h
    · rename_i hs
      cases h
      have h1 := (Bool.and_eq_true_iff.mp hs).1
      have h2 := (Bool.and_eq_true_iff.mp hs).2
      exact .inr ⟨_, _, rx.dp (canLay_of_shaped h1), ry.dp (canLay_of_shaped h2), h1, h2, rfl⟩
    · cases h
theorem b2_eq : B2 .pl (rEqA X.K) eqD := by
  intro H O x y dx dy d Q tr rx ry hf q
  unfold eqD at hf
  cases e : eqB dx dy with
  | none => rw [e] at hf; cases hf
  | some t =>
    rw [e] at hf
    cases hf
    rcases eqB_ok (K := X.K) rx ry e with ⟨h1, h2⟩ | ⟨d, e, h1, h2, h3, h4, h5⟩
    · exact .inl ⟨h1, by rw [h2]; exact q H _ (Same.refl H) (.bl _)⟩
    · exact .inr ⟨d, e, h1, h2, h3, h4, by rw [h5]; exact q H _ (Same.refl H) (.bl _)⟩
theorem b2_ne : B2 .pl (rNeA X.K) neD := by
  intro H O x y dx dy d Q tr rx ry hf q
  unfold neD at hf
  cases e : eqB dx dy with
  | none => rw [e] at hf; cases hf
  | some t =>
    rw [e] at hf
    cases hf
    rcases eqB_ok (K := X.K) rx ry e with ⟨h1, h2⟩ | ⟨d, e, h1, h2, h3, h4, h5⟩
    · exact .inl ⟨h1, by rw [h2]; exact q H _ (Same.refl H) (.bl _)⟩
    · exact .inr ⟨d, e, h1, h2, h3, h4, by rw [h5]; exact q H _ (Same.refl H) (.bl _)⟩
theorem de_eq (hu : X.A.units + 64 < cLine) (ha : DE X G M ka a ma) (hb : DE X G M kb b mb) : DE X G M .pl (.Compare a [.Eq] [b] pos) (m2 eqD ma mb) := de_cmp (op_eq.or (op_eqD hu)) b2_eq ha hb (nomark _)
theorem de_ne (hu : X.A.units + 64 < cLine) (ha : DE X G M ka a ma) (hb : DE X G M kb b mb) : DE X G M .pl (.Compare a [.NotEq] [b] pos) (m2 neD ma mb) := de_cmp (op_ne.or (op_neD hu)) b2_ne ha hb (nomark _)
def isN : D → D → Option D
  | .none, .none => some (.bool true)
  | _, .none => some (.bool false)
  | _, _ => none
end
end DL

namespace DL
open PySem PySem.Spec L2
section
variable {X : Cx} {G : Gd} {M : List Md} {k : Kd} {ka kb kc : Kd} {a b c e : Expr} {ma mb mc m : Env' → Res D} {pos : Pos}

/-! ### is None -/
def isND (d : D) : Bool := match d with | .none => true | _ => false
theorem V_non_iff {H : Hp} {O : AS} {d : D} {v : V} (r : Rc H O d v) : decide (v = .non) = isND d := by
  cases r with
  | of r => cases r <;> simp [isND]
  | rt r => cases r <;> simp [isND]
theorem b2_isN : B2 .pl (fun x y H Q => y = .non ∧ Q (.bl (decide (x = .non))) H) (fun x y => match y with | .none => some (.bool (isND x)) | _ => none) := by
  intro H O x y dx dy d Q tr rx ry hf q
  cases dy <;> simp only at hf <;> cases hf
  exact ⟨ry.non_inv, by rw [V_non_iff rx]; exact q H _ (Same.refl H) (.bl _)⟩
theorem b2_notN : B2 .pl (fun x y H Q => y = .non ∧ Q (.bl (!decide (x = .non))) H) (fun x y => match y with | .none => some (.bool (!isND x)) | _ => none) := by
  intro H O x y dx dy d Q tr rx ry hf q
  cases dy <;> simp only at hf <;> cases hf
  exact ⟨ry.non_inv, by rw [V_non_iff rx]; exact q H _ (Same.refl H) (.bl _)⟩
def mIsN (m : Env' → Res D) : Env' → Res D := fun env => (m env).bind fun x => .ok (.bool (isND x))
def mNotN (m : Env' → Res D) : Env' → Res D := fun env => (m env).bind fun x => .ok (.bool (!isND x))
theorem de_isN {j pos'} (ha : DE X G M ka a ma) : DE X G M .pl (.Compare a [.Is] [.Constant .none j pos'] pos) (mIsN ma) := de_cmp op_isN b2_isN ha de_non (nomark _)
theorem de_notN {j pos'} (ha : DE X G M ka a ma) : DE X G M .pl (.Compare a [.IsNot] [.Constant .none j pos'] pos) (mNotN ma) := de_cmp op_notN b2_notN ha de_non (nomark _)

/-! ### in: lists, tuples, texts -/
/-- the subtext at its first places -/
def inS (x y : Str) : Bool := !(Builtin.Str.occurrences y x 0 y.length 1).isEmpty
def inB : D → D → Option Bool
  | d, .list ds => if SeqAt.shaped d && SeqAt.shaped (.list ds) then some (ds.any fun z => PyData.eqv z d) else none
  | .str x, .str y => some (inS x y)
  | _, _ => none
def inD (x y : D) : Option D := (inB x y).map .bool
def notInD (x y : D) : Option D := (inB x y).map fun b => .bool !b
theorem inB_ok {K : PySem.W.Frag} {H : Hp} {O : AS} {x y : V} {dx dy : D} {t : Bool} (rx : Rc H O dx x) (ry : Rc H O dy y) (h : inB dx dy = some t) :
    (∃ d ds, Dp K H x d ∧ Dp K H y (.list ds) ∧ SeqAt.shaped d = true ∧ SeqAt.shaped (.list ds) = true ∧ (ds.any fun z => PyData.eqv z d) = t) ∨ ∃ i j, x = .str i ∧ y = .str j ∧ inS i j = t := by
  unfold inB at h
  split at h
  · split at h
    · rename_i hs
      cases h
      have h1 := (Bool.and_eq_true_iff.mp hs).1
      have h2 := (Bool.and_eq_true_iff.mp hs).2
      exact .inl ⟨_, _, rx.dp (canLay_of_shaped h1), ry.dp (canLay_of_shaped h2), h1, h2, rfl⟩
    · cases h
  · cases h
    exact .inr ⟨_, _, rx.str_inv, ry.str_inv, rfl⟩
  · cases h
theorem b2_in : B2 .pl (fun x y H Q => rInD X.K x y H Q ∨ ∃ i j, x = .str i ∧ y = .str j ∧ Q (.bl (!(Builtin.Str.occurrences j i 0 j.length 1).isEmpty)) H) inD := by
  intro H O x y dx dy d Q tr rx ry hf q
  unfold inD at hf
  cases e : inB dx dy with
  | none => rw [e] at hf; cases hf
  | some t =>
    rw [e] at hf
    cases hf
    rcases inB_ok (K := X.K) rx ry e with ⟨d, ds, h1, h2, h3, h4, h5⟩ | ⟨i, j, h1, h2, h3⟩
    · exact .inl ⟨d, ds, h1, h2, h3, h4, by rw [h5]; exact q H _ (Same.refl H) (.bl _)⟩
    · exact .inr ⟨i, j, h1, h2, by unfold inS at h3; rw [h3]; exact q H _ (Same.refl H) (.bl _)⟩
theorem b2_notIn : B2 .pl (fun x y H Q => rNotInD X.K x y H Q ∨ ∃ i j, x = .str i ∧ y = .str j ∧ Q (.bl (!(!(Builtin.Str.occurrences j i 0 j.length 1).isEmpty))) H) notInD := by
  intro H O x y dx dy d Q tr rx ry hf q
  unfold notInD at hf
  cases e : inB dx dy with
  | none => rw [e] at hf; cases hf
  | some t =>
    rw [e] at hf
    cases hf
    rcases inB_ok (K := X.K) rx ry e with ⟨d, ds, h1, h2, h3, h4, h5⟩ | ⟨i, j, h1, h2, h3⟩
    · exact .inl ⟨d, ds, h1, h2, h3, h4, by rw [h5]; exact q H _ (Same.refl H) (.bl _)⟩
    · exact .inr ⟨i, j, h1, h2, by unfold inS at h3; rw [h3]; exact q H _ (Same.refl H) (.bl _)⟩
theorem de_in (hu : X.A.units + 65 < cLine) (ha : DE X G M ka a ma) (hb : DE X G M kb b mb) (hm : behindInMarks .In b = false := by rfl) : DE X G M .pl (.Compare a [.In] [b] pos) (m2 inD ma mb) := de_cmp ((op_inD hu).or op_in_str) b2_in ha hb hm
theorem de_notIn (hu : X.A.units + 65 < cLine) (ha : DE X G M ka a ma) (hb : DE X G M kb b mb) (hm : behindInMarks .NotIn b = false := by rfl) : DE X G M .pl (.Compare a [.NotIn] [b] pos) (m2 notInD ma mb) := de_cmp ((op_notInD hu).or op_notin_str) b2_notIn ha hb hm

/-! ### subscripts, slices -/
def ixD : D → D → Option D
  | .list ds, .int i => atI ds i
  | .tuple ds, .int i => atI ds i
  | .str x, .int i => if x.length ≤ sizeLine then (atI x.cps.toList i).map fun c => .str ⟨#[c]⟩ else none
  | _, _ => none
theorem RpA.atI {H : Hp} {O : AS} {ds : List D} {vs : List V} {i : Int} {d : D} (r : RpA H O ds vs) (h : L2.atI ds i = some d) : ∃ v, L2.atI vs i = some v ∧ Rp H O d v := by
  unfold L2.atI at h ⊢
  rw [r.length] at h
  cases e : ixN vs.length i with
  | none => rw [e] at h; cases h
  | some j =>
    rw [e] at h
    exact r.get h
theorem b2_ix : B2 .pl (rIx X.K) ixD := by
  intro H O x y dx dy d Q tr rx ry hf q
  unfold ixD at hf
  split at hf
  · obtain ⟨p, xs, rfl, e1, r1⟩ := rx.list_inv
    cases ry.int_inv
    obtain ⟨v, hv, rv⟩ := r1.atI hf
    exact .inl ⟨p, xs, _, v, rfl, rfl, Rd.seqL e1, hv, q H _ (Same.refl H) rv⟩
  · obtain ⟨p, xs, rfl, e1, r1⟩ := rx.tuple_inv
    cases ry.int_inv
    obtain ⟨v, hv, rv⟩ := r1.atI hf
    exact .inr (.inl ⟨p, xs, _, v, rfl, rfl, Rd.seqT e1, hv, q H _ (Same.refl H) rv⟩)
  · cases rx.str_inv; cases ry.int_inv
    split at hf
    · rename_i x i hz
      cases hc : atI x.cps.toList i with
      | none => rw [hc] at hf; cases hf
      | some c =>
        rw [hc] at hf; cases hf
        exact .inr (.inr ⟨_, _, c, rfl, rfl, hz, hc, q H _ (Same.refl H) (.str _)⟩)
    · cases hf
  · cases hf
theorem de_ix (ha : DE X G M ka a ma) (hb : DE X G M kb b mb) (hs : PlainIx b) : DE X G M .pl (.Subscript a b pos) (m2 ixD ma mb) := pe_imp (pe_ix ix_seq ha.co hb.co hs) (tOp_ok b2_ix)

/-- a part of a slice -/
def tO (G : Gd) (M : List Md) (m : Env' → Res (Option Int)) : TO := fun σ H Q => ∃ (g : Gr G.ex) (O : AS) (env : Env'), SR g.H0 g.O0 M O env σ H ∧ match m env with
  | .ok o => ∀ H', Same H H' → Q o H'
  | .exc c d => XW G O σ H c d
  | .err => False
def DO (X : Cx) (G : Gd) (M : List Md) (e : Option Expr) (m : Env' → Res (Option Int)) : Prop := PO X e (tO G M m)
theorem po_imp {X : Cx} {e : Option Expr} {t t' : TO} (h : PO X e t) (i : ∀ σ H Q, t' σ H Q → t σ H Q) : PO X e t' := ⟨fun pins s σ H Q I q => h.run pins s σ H Q I (i σ H Q q)⟩
def mPart (m : Env' → Res D) : Env' → Res (Option Int) := fun env => (m env).bind fun d => match d with
  | .int i => .ok (some i)
  | _ => .err
def mNoPart : Env' → Res (Option Int) := fun _ => .ok none
theorem do_none : DO X G M none mNoPart := po_imp po_none fun σ H Q ⟨g, O, env, sr, q⟩ => q H (Same.refl H)
theorem do_some (ha : DE X G M ka a ma) : DO X G M (some a) (mPart ma) := po_imp (po_some ha.co) fun σ H Q ⟨g, O, env, sr, q⟩ => by
  refine ⟨g, O, env, sr, ?_⟩
  unfold mPart at q
  cases h : ma env with
  | err => rw [h] at q; exact q
  | exc c d => rw [h] at q; exact q
  | ok d =>
    rw [h, Res.bind_ok] at q
    intro H' v s r
    cases d <;> simp only at q
    case int i => exact ⟨i, Rc.int_inv r, q H' s⟩
/-- the items lo:hi -/
def cut {α : Type} (xs : List α) (lo hi : Option Int) : List α := (xs.drop (HT.sIx xs.length 0 lo)).take (HT.sIx xs.length xs.length hi - HT.sIx xs.length 0 lo)
def slD : D → Option Int → Option Int → Option D
  | .list ds, lo, hi => some (.list (cut ds lo hi))
  | .tuple ds, lo, hi => some (.tuple (cut ds lo hi))
  | .str x, lo, hi => if x.length ≤ sizeLine then some (.str ⟨(cut x.cps.toList lo hi).toArray⟩) else none
  | _, _, _ => none
theorem RpA.cut {H : Hp} {O : AS} {ds : List D} {vs : List V} (r : RpA H O ds vs) (lo hi : Option Int) : RpA H O (DL.cut ds lo hi) (cutV vs lo hi) := by
  unfold DL.cut cutV
  rw [r.length]
  exact (r.drop _).take _
def rSlAll (K : PySem.W.Frag) : V → Option Int → Option Int → Hp → VK → Prop := fun x lo hi H Q => rSlL K x lo hi H Q ∨ rSlA K x lo hi H Q ∨ rSlS x lo hi H Q
theorem sl_all : SlR X (rSlAll X.K) := sl_list.or (sl_tupA.or sl_str)
def m3 (f : D → Option Int → Option Int → Option D) (ma : Env' → Res D) (ml mh : Env' → Res (Option Int)) : Env' → Res D := fun env => (ma env).bind fun x => (ml env).bind fun l => (mh env).bind fun h => Res.of (f x l h)
def S3 (k : Kd) (r : V → Option Int → Option Int → Hp → VK → Prop) (f : D → Option Int → Option Int → Option D) : Prop := ∀ {H : Hp} {O : AS} {x : V} {dx d : D} {lo hi : Option Int} {Q : VK}, Trk H O → Rc H O dx x → f dx lo hi = some d →
  (∀ H' v, Same H H' → RK k H O H' d v → Q v H') → r x lo hi H Q
theorem s3_all : S3 .pl (rSlAll X.K) slD := by
  intro H O x dx d lo hi Q tr rx hf q
  unfold slD at hf
  split at hf
  · cases hf
    obtain ⟨p, xs, rfl, e1, r1⟩ := rx.list_inv
    exact .inl ⟨p, xs, rfl, Rd.seqL e1, fun l hl => q _ _ (same_new hl) (pl_list tr hl (r1.cut lo hi))⟩
  · cases hf
    obtain ⟨p, xs, rfl, e1, r1⟩ := rx.tuple_inv
    refine .inr (.inl ⟨p, xs, rfl, Rd.seqT e1, fun hw => ?_, fun _ l hl => q _ _ (same_new hl) (pl_tup tr hl (r1.cut lo hi))⟩)
    refine q H _ (Same.refl H) ?_
    have e : DL.cut ‹List D› lo hi = ‹List D› := by
      unfold DL.cut
      rw [r1.length, hw.1, hw.2]
      simp [← r1.length]
    cases rx with
    | of r => show Rp H O (.tuple (DL.cut _ lo hi)) _; rw [e]; exact r
    | rt r => cases r
  · split at hf
    · cases hf
      cases rx.str_inv
      rename_i hz
      refine .inr (.inr ⟨_, rfl, hz, ?_⟩)
      have := q H _ (Same.refl H) (.str _)
      unfold cutS
      unfold DL.cut at this
      simpa [Str.length] using this
    · cases hf
  · cases hf
/-- a slice of a list, owned -/
theorem s3_list : S3 .fr (rSlL X.K) (fun x lo hi => match x with | .list ds => some (.list (cut ds lo hi)) | _ => none) := by
  intro H O x dx d lo hi Q tr rx hf q
  simp only at hf
  split at hf
  · cases hf
    obtain ⟨p, xs, rfl, e1, r1⟩ := rx.list_inv
    exact ⟨p, xs, rfl, Rd.seqL e1, fun l hl => q _ _ (same_new hl) (fr_list tr hl (r1.cut lo hi))⟩
  · cases hf
theorem de_slG {r : V → Option Int → Option Int → Hp → VK → Prop} {f : D → Option Int → Option Int → Option D} {lo hi : Option Expr} {p2 : Pos} {ml mh : Env' → Res (Option Int)} (hr : SlR X r) (hS : S3 k r f) (ha : DE X G M ka a ma) (hl : DO X G M lo ml) (hh : DO X G M hi mh) :
    DE X G M k (.Subscript a (.Slice lo hi none p2) pos) (m3 f ma ml mh) := pe_imp (pe_slice hr ha.co hl hh) fun σ H Q ⟨g, O, env, sr, q⟩ => by
  refine ⟨g, O, env, sr, ?_⟩
  unfold m3 at q
  cases h1 : ma env with
  | err => rw [h1] at q; exact q
  | exc c d => rw [h1] at q; exact q
  | ok x =>
    rw [h1, Res.bind_ok] at q
    intro H1 v1 s1 r1
    refine ⟨g, O, env, sr.grow s1, ?_⟩
    cases h2 : ml env with
    | err => rw [h2] at q; exact q
    | exc c d => rw [h2] at q; exact XW.grow s1 q
    | ok l =>
      rw [h2, Res.bind_ok] at q
      intro H2 s2
      refine ⟨g, O, env, sr.grow (s1.trans s2), ?_⟩
      cases h3 : mh env with
      | err => rw [h3] at q; exact q
      | exc c d => rw [h3] at q; exact XW.grow (s1.trans s2) q
      | ok h =>
        rw [h3, Res.bind_ok] at q
        intro H3 s3
        have s := (s1.trans s2).trans s3
        cases hf : f x l h with
        | none => rw [hf] at q; exact q.elim
        | some d => rw [hf] at q; exact hS (Trk.grow sr.tr s) (Rc.same (s2.trans s3) r1) hf fun H' v s' r => q H' v (s.trans s') (RK.back s r)
theorem de_sl {lo hi : Option Expr} {p2 : Pos} {ml mh : Env' → Res (Option Int)} (ha : DE X G M ka a ma) (hl : DO X G M lo ml) (hh : DO X G M hi mh) : DE X G M .pl (.Subscript a (.Slice lo hi none p2) pos) (m3 slD ma ml mh) := de_slG sl_all s3_all ha hl hh

/-! ### tests -/
def tT (G : Gd) (M : List Md) (m : Env' → Res Bool) : TT := fun σ H Q => ∃ (g : Gr G.ex) (O : AS) (env : Env'), SR g.H0 g.O0 M O env σ H ∧ match m env with
  | .ok b => ∀ H', Same H H' → Q b H'
  | .exc c d => XW G O σ H c d
  | .err => False
def DT (X : Cx) (G : Gd) (M : List Md) (e : Expr) (m : Env' → Res Bool) : Prop := PT X e (tT G M m)
def DW (X : Cx) (G : Gd) (M : List Md) (e : Expr) (m : Env' → Res Bool) : Prop := PW X e (tT G M m)
theorem pt_imp {X : Cx} {e : Expr} {t t' : TT} (h : PT X e t) (i : ∀ σ H Q, t' σ H Q → t σ H Q) : PT X e t' := ⟨fun pins s σ H Q I q => h.run pins s σ H Q I (i σ H Q q)⟩
theorem pw_imp {X : Cx} {e : Expr} {t t' : TT} (h : PW X e t) (i : ∀ σ H Q, t' σ H Q → t σ H Q) : PW X e t' := ⟨fun wh pins s σ H Q I q => h.run wh pins s σ H Q I (i σ H Q q)⟩
def asB : D → Res Bool
  | .bool b => .ok b
  | _ => .err
def mB (m : Env' → Res D) : Env' → Res Bool := fun env => (m env).bind asB
theorem tB_ok (σ : L2.St) (H : Hp) (Q : Bool → Hp → Prop) (h : tT G M (mB ma) σ H Q) : tTest (tE G M .co ma) σ H Q := by
  obtain ⟨g, O, env, sr, q⟩ := h
  refine ⟨g, O, env, sr, ?_⟩
  unfold mB at q
  cases h : ma env with
  | err => rw [h] at q; exact q
  | exc c d => rw [h] at q; exact q
  | ok d =>
    rw [h, Res.bind_ok] at q
    intro H' v s r
    cases d <;> simp only [asB] at q
    case bool b => exact ⟨b, Rc.bl_inv r, q H' s⟩
theorem dt_val (ha : DE X G M ka e ma) (he : ∀ whole, isTrue e X.env whole = (do let v ← whole; standAt e.pos; holding [v] (truthy v)) := by intro _; rfl) : DT X G M e (mB ma) := pt_imp (pt_val ha.co he) tB_ok
/-- a comparison as a test -/
theorem dt_cmp {op : CmpOp} {r : R2} {f : D → D → Option D} (ho : OpR X (compareOp op) r) (hB : B2 .pl r f) (ha : DE X G M ka a ma) (hb : DE X G M kb b mb) (hm : behindInMarks op b = false) : DT X G M (.Compare a [op] [b] pos) (mB (m2 f ma mb)) :=
  pt_imp (pt_cmpR ho ha.co hb.co hm) fun σ H Q h => by
    obtain ⟨g, O, env, sr, q⟩ := h
    refine tOp_ok (G := G) (M := M) (k := .pl) hB σ H _ ⟨g, O, env, sr, ?_⟩
    unfold mB at q
    cases h : m2 f ma mb env with
    | err => rw [h] at q; exact q
    | exc c d => rw [h] at q; exact q
    | ok d =>
      rw [h, Res.bind_ok] at q
      intro H' v s r
      cases d <;> simp only [asB] at q
      case bool b => exact ⟨b, Rc.bl_inv (.of r), q H' s⟩
theorem dt_lt (ha : DE X G M ka a ma) (hb : DE X G M kb b mb) : DT X G M (.Compare a [.Lt] [b] pos) (mB (m2 ltI ma mb)) := dt_cmp op_lt b2_lt ha hb (nomark _)
theorem dt_le (ha : DE X G M ka a ma) (hb : DE X G M kb b mb) : DT X G M (.Compare a [.LtE] [b] pos) (mB (m2 leI ma mb)) := dt_cmp op_le b2_le ha hb (nomark _)
theorem dt_gt (ha : DE X G M ka a ma) (hb : DE X G M kb b mb) : DT X G M (.Compare a [.Gt] [b] pos) (mB (m2 gtI ma mb)) := dt_cmp op_gt b2_gt ha hb (nomark _)
theorem dt_ge (ha : DE X G M ka a ma) (hb : DE X G M kb b mb) : DT X G M (.Compare a [.GtE] [b] pos) (mB (m2 geI ma mb)) := dt_cmp op_ge b2_ge ha hb (nomark _)
theorem dt_eq (hu : X.A.units + 64 < cLine) (ha : DE X G M ka a ma) (hb : DE X G M kb b mb) : DT X G M (.Compare a [.Eq] [b] pos) (mB (m2 eqD ma mb)) := dt_cmp (op_eq.or (op_eqD hu)) b2_eq ha hb (nomark _)
theorem dt_ne (hu : X.A.units + 64 < cLine) (ha : DE X G M ka a ma) (hb : DE X G M kb b mb) : DT X G M (.Compare a [.NotEq] [b] pos) (mB (m2 neD ma mb)) := dt_cmp (op_ne.or (op_neD hu)) b2_ne ha hb (nomark _)
theorem dt_in (hu : X.A.units + 65 < cLine) (ha : DE X G M ka a ma) (hb : DE X G M kb b mb) (hm : behindInMarks .In b = false := by rfl) : DT X G M (.Compare a [.In] [b] pos) (mB (m2 inD ma mb)) := dt_cmp ((op_inD hu).or op_in_str) b2_in ha hb hm
theorem dt_notIn (hu : X.A.units + 65 < cLine) (ha : DE X G M ka a ma) (hb : DE X G M kb b mb) (hm : behindInMarks .NotIn b = false := by rfl) : DT X G M (.Compare a [.NotIn] [b] pos) (mB (m2 notInD ma mb)) := dt_cmp ((op_notInD hu).or op_notin_str) b2_notIn ha hb hm
def fIsN : D → D → Option D := fun x y => match y with | .none => some (.bool (isND x)) | _ => none
def fNotN : D → D → Option D := fun x y => match y with | .none => some (.bool (!isND x)) | _ => none
theorem dt_isN {j pos'} (ha : DE X G M ka a ma) : DT X G M (.Compare a [.Is] [.Constant .none j pos'] pos) (mB (mIsN ma)) := dt_cmp (f := fIsN) op_isN b2_isN ha de_non (nomark _)
theorem dt_notN {j pos'} (ha : DE X G M ka a ma) : DT X G M (.Compare a [.IsNot] [.Constant .none j pos'] pos) (mB (mNotN ma)) := dt_cmp (f := fNotN) op_notN b2_notN ha de_non (nomark _)
def bAnd (ma mb : Env' → Res Bool) : Env' → Res Bool := fun env => (ma env).bind fun b => if b = true then mb env else .ok false
def bOr (ma mb : Env' → Res Bool) : Env' → Res Bool := fun env => (ma env).bind fun b => if b = true then .ok true else mb env
def bNot (ma : Env' → Res Bool) : Env' → Res Bool := fun env => (ma env).bind fun b => .ok (!b)
variable {na nb nc : Env' → Res Bool} {rest : List Expr}
theorem tIte_ok {α : Type} {σ : L2.St} {H : Hp} {g : Gr G.ex} {O : AS} {env : Env'} {Q : Bool → Hp → Prop} (sr : SR g.H0 g.O0 M O env σ H) (f : Bool → Env' → Res Bool) (q : match ((na env).bind fun b => f b env) with
    | .ok b => ∀ H', Same H H' → Q b H' | .exc c d => XW G O σ H c d | .err => False) :
    tT G M na σ H fun b H1 => tT G M (f b) σ H1 fun b2 H2 => Q b2 H2 := by
  refine ⟨g, O, env, sr, ?_⟩
  cases h : na env with
  | err => rw [h] at q; exact q
  | exc c d => rw [h] at q; exact q
  | ok b =>
    rw [h, Res.bind_ok] at q
    intro H1 s1
    refine ⟨g, O, env, sr.grow s1, ?_⟩
    cases h2 : f b env with
    | err => rw [h2] at q; exact q
    | exc c d => rw [h2] at q; exact XW.grow s1 q
    | ok b2 => rw [h2] at q; exact fun H2 s2 => q H2 (s1.trans s2)
theorem tT_ok {b : Bool} {σ : L2.St} {H : Hp} {Q : Bool → Hp → Prop} (h : tT G M (fun _ => .ok b) σ H Q) : Q b H := by
  obtain ⟨g, O, env, sr, q⟩ := h
  exact q H (Same.refl H)
theorem dw_and1 (ha : DT X G M a na) : DW X G M (.BoolOp .And [a] pos) na := pw_and1 ha
theorem dw_or1 (ha : DT X G M a na) : DW X G M (.BoolOp .Or [a] pos) na := pw_or1 ha
theorem dw_and (ha : DT X G M a na) (hb : DW X G M (.BoolOp .And (b :: rest) pos) nb) : DW X G M (.BoolOp .And (a :: b :: rest) pos) (bAnd na nb) := pw_imp (pw_and ha hb) fun σ H Q ⟨g, O, env, sr, q⟩ => by
  have z := tIte_ok (α := Unit) sr (fun b env => if b = true then nb env else .ok false) q
  obtain ⟨g1, O1, env1, sr1, q1⟩ := z
  refine ⟨g1, O1, env1, sr1, ?_⟩
  cases h : na env1 with
  | err => rw [h] at q1; exact q1
  | exc c d => rw [h] at q1; exact q1
  | ok b =>
    rw [h] at q1
    intro H1 s1
    have q2 := q1 H1 s1
    cases b with
    | true => simpa using q2
    | false => simpa using tT_ok q2
theorem dw_or (ha : DT X G M a na) (hb : DW X G M (.BoolOp .Or (b :: rest) pos) nb) : DW X G M (.BoolOp .Or (a :: b :: rest) pos) (bOr na nb) := pw_imp (pw_or ha hb) fun σ H Q ⟨g, O, env, sr, q⟩ => by
  have z := tIte_ok (α := Unit) sr (fun b env => if b = true then .ok true else nb env) q
  obtain ⟨g1, O1, env1, sr1, q1⟩ := z
  refine ⟨g1, O1, env1, sr1, ?_⟩
  cases h : na env1 with
  | err => rw [h] at q1; exact q1
  | exc c d => rw [h] at q1; exact q1
  | ok b =>
    rw [h] at q1
    intro H1 s1
    have q2 := q1 H1 s1
    cases b with
    | true => simpa using tT_ok q2
    | false => simpa using q2
theorem dt_w (h : DW X G M e na) : DT X G M e na := PW.pt h
theorem dt_not (ha : DT X G M a na) : DT X G M (.UnaryOp .Not a pos) (bNot na) := pt_imp (pt_not ha) fun σ H Q ⟨g, O, env, sr, q⟩ => by
  refine ⟨g, O, env, sr, ?_⟩
  unfold bNot at q
  cases h : na env with
  | err => rw [h] at q; exact q
  | exc c d => rw [h] at q; exact q
  | ok b => rw [h, Res.bind_ok] at q; exact q
end
end DL

namespace DL
open PySem PySem.Spec L2

inductive RcA (H : Hp) (O : AS) : List D → List V → Prop
  | nil : RcA H O [] []
  | cons {d : D} {v : V} {ds : List D} {vs : List V} : Rc H O d v → RcA H O ds vs → RcA H O (d :: ds) (v :: vs)
theorem RcA.of {H : Hp} {O : AS} : ∀ {ds : List D} {vs : List V}, RpA H O ds vs → RcA H O ds vs
  | _, _, .nil => .nil
  | _, _, .cons a b => .cons (.of a) (RcA.of b)
section
variable {X : Cx} {G : Gd} {M : List Md} {k : Kd} {ka kb kc : Kd} {a b c e : Expr} {es : List Expr} {ma mb mc m : Env' → Res D} {pos : Pos}
variable {na nb nc : Env' → Res Bool} {rest : List Expr}

/-! ### a if t else b; and, or, not as values -/
def mIf (nc : Env' → Res Bool) (ma mb : Env' → Res D) : Env' → Res D := fun env => (nc env).bind fun b => if b = true then ma env else mb env
theorem de_if {c : Expr} (hc : DT X G M c nc) (ha : DE X G M .pl a ma) (hb : DE X G M .pl b mb) : DE X G M .pl (.IfExp c a b pos) (mIf nc ma mb) := pe_imp (pe_ifExp hc ha hb) fun σ H Q ⟨g, O, env, sr, q⟩ => by
  refine ⟨g, O, env, sr, ?_⟩
  unfold mIf at q
  cases h : nc env with
  | err => rw [h] at q; exact q
  | exc c d => rw [h] at q; exact q
  | ok b =>
    rw [h, Res.bind_ok] at q
    intro H1 s1
    cases b with
    | true =>
      rw [if_pos rfl] at q ⊢
      refine ⟨g, O, env, sr.grow s1, ?_⟩
      cases h2 : ma env with
      | err => rw [h2] at q; exact q
      | exc c d => rw [h2] at q; exact XW.grow s1 q
      | ok d => rw [h2] at q; exact fun H' v s r => q H' v (s1.trans s) r
    | false =>
      rw [if_neg Bool.false_ne_true] at q ⊢
      refine ⟨g, O, env, sr.grow s1, ?_⟩
      cases h2 : mb env with
      | err => rw [h2] at q; exact q
      | exc c d => rw [h2] at q; exact XW.grow s1 q
      | ok d => rw [h2] at q; exact fun H' v s r => q H' v (s1.trans s) r
def mAndV (ma mb : Env' → Res D) : Env' → Res D := fun env => (ma env).bind fun d => (asB d).bind fun b => if b = true then mb env else .ok (.bool false)
def mOrV (ma mb : Env' → Res D) : Env' → Res D := fun env => (ma env).bind fun d => (asB d).bind fun b => if b = true then .ok (.bool true) else mb env
def mNotV (ma : Env' → Res D) : Env' → Res D := fun env => (ma env).bind fun d => (asB d).bind fun b => .ok (.bool !b)
theorem de_one {op} (ha : DE X G M k a ma) : DE X G M k (.BoolOp op [a] pos) ma := pe_one ha
theorem de_and (ha : DE X G M .pl a ma) (hb : DE X G M .pl (.BoolOp .And (b :: rest) pos) mb) : DE X G M .pl (.BoolOp .And (a :: b :: rest) pos) (mAndV ma mb) := pe_imp (pe_and ha hb) fun σ H Q ⟨g, O, env, sr, q⟩ => by
  refine ⟨g, O, env, sr, ?_⟩
  unfold mAndV at q
  cases h : ma env with
  | err => rw [h] at q; exact q
  | exc c d => rw [h] at q; exact q
  | ok d =>
    rw [h, Res.bind_ok] at q
    intro H1 v1 s1 r1
    cases d <;> simp only [asB, Res.bind_err] at q
    case bool b =>
      rw [Res.bind_ok] at q
      refine ⟨b, Rc.bl_inv (.of r1), ?_⟩
      cases b with
      | false =>
        rw [if_neg Bool.false_ne_true] at q ⊢
        exact q H1 _ s1 (.bl _)
      | true =>
        rw [if_pos rfl] at q ⊢
        refine ⟨g, O, env, sr.grow s1, ?_⟩
        cases h2 : mb env with
        | err => rw [h2] at q; exact q
        | exc c d => rw [h2] at q; exact XW.grow s1 q
        | ok d => rw [h2] at q; exact fun H' v s r => q H' v (s1.trans s) r
theorem de_or (ha : DE X G M .pl a ma) (hb : DE X G M .pl (.BoolOp .Or (b :: rest) pos) mb) : DE X G M .pl (.BoolOp .Or (a :: b :: rest) pos) (mOrV ma mb) := pe_imp (pe_or ha hb) fun σ H Q ⟨g, O, env, sr, q⟩ => by
  refine ⟨g, O, env, sr, ?_⟩
  unfold mOrV at q
  cases h : ma env with
  | err => rw [h] at q; exact q
  | exc c d => rw [h] at q; exact q
  | ok d =>
    rw [h, Res.bind_ok] at q
    intro H1 v1 s1 r1
    cases d <;> simp only [asB, Res.bind_err] at q
    case bool b =>
      rw [Res.bind_ok] at q
      refine ⟨b, Rc.bl_inv (.of r1), ?_⟩
      cases b with
      | true =>
        rw [if_pos rfl] at q ⊢
        exact q H1 _ s1 (.bl _)
      | false =>
        rw [if_neg Bool.false_ne_true] at q ⊢
        refine ⟨g, O, env, sr.grow s1, ?_⟩
        cases h2 : mb env with
        | err => rw [h2] at q; exact q
        | exc c d => rw [h2] at q; exact XW.grow s1 q
        | ok d => rw [h2] at q; exact fun H' v s r => q H' v (s1.trans s) r
theorem de_not (ha : DE X G M k a ma) : DE X G M .pl (.UnaryOp .Not a pos) (mNotV ma) := pe_imp (pe_not ha.co) fun σ H Q ⟨g, O, env, sr, q⟩ => by
  refine ⟨g, O, env, sr, ?_⟩
  unfold mNotV at q
  cases h : ma env with
  | err => rw [h] at q; exact q
  | exc c d => rw [h] at q; exact q
  | ok d =>
    rw [h, Res.bind_ok] at q
    intro H1 v1 s1 r1
    cases d <;> simp only [asB, Res.bind_err] at q
    case bool b =>
      rw [Res.bind_ok] at q
      exact ⟨b, Rc.bl_inv r1, q H1 _ s1 (.bl _)⟩

/-! ### arguments -/
def RAk (k : Kd) (H : Hp) (O : AS) (ds : List D) (vs : List V) : Prop := match k with
  | .pl => RpA H O ds vs
  | _ => RcA H O ds vs
def RA1 (k : Kd) (H : Hp) (O : AS) (d : D) (v : V) : Prop := match k with
  | .pl => Rp H O d v
  | _ => Rc H O d v
theorem RcA.same {H H' : Hp} {O : AS} (s : Same H H') : ∀ {ds : List D} {vs : List V}, RcA H O ds vs → RcA H' O ds vs
  | _, _, .nil => .nil
  | _, _, .cons a b => .cons (a.same s) (RcA.same s b)
theorem RAk.cons {H H' : Hp} {O : AS} {d : D} {v : V} {ds : List D} {vs : List V} (s : Same H H') (r : RA1 k H O d v) (t : RAk k H' O ds vs) : RAk k H' O (d :: ds) (v :: vs) := by
  cases k with
  | pl => exact .cons (Rp.mono (Sub.same s O) r) t
  | co => exact .cons (Rc.same s r) t
  | fr => exact .cons (Rc.same s r) t
theorem RcA.appendOf {H : Hp} {O : AS} : ∀ {es ds : List D} {ws vs : List V}, RpA H O es ws → RcA H O ds vs → RcA H O (es ++ ds) (ws ++ vs)
  | _, _, _, _, .nil, t => t
  | _, _, _, _, .cons a b, t => .cons (.of a) (RcA.appendOf b t)
theorem RAk.append {H H' : Hp} {O : AS} {es ds : List D} {ws vs : List V} (s : Same H H') (r : RpA H O es ws) (t : RAk k H' O ds vs) : RAk k H' O (es ++ ds) (ws ++ vs) := by
  cases k with
  | pl => exact (r.mono (Sub.same s O)).append t
  | co => exact RcA.appendOf (r.mono (Sub.same s O)) t
  | fr => exact RcA.appendOf (r.mono (Sub.same s O)) t
def tAs (G : Gd) (M : List Md) (k : Kd) (m : Env' → Res (List D)) : TA := fun σ H Q => ∃ (g : Gr G.ex) (O : AS) (env : Env'), SR g.H0 g.O0 M O env σ H ∧ match m env with
  | .ok ds => ∀ H' vs, Same H H' → RAk k H' O ds vs → Q vs H'
  | .exc c d => XW G O σ H c d
  | .err => False
def DA (X : Cx) (G : Gd) (M : List Md) (k : Kd) (es : List Expr) (m : Env' → Res (List D)) : Prop := PA X es (tAs G M k m)
theorem pa_imp {X : Cx} {e : List Expr} {t t' : TA} (h : PA X e t) (i : ∀ σ H Q, t' σ H Q → t σ H Q) : PA X e t' := ⟨fun pos pins s σ H Q I q => h.run pos pins s σ H Q I (i σ H Q q)⟩
def aNil : Env' → Res (List D) := fun _ => .ok []
def aCons (m : Env' → Res D) (ms : Env' → Res (List D)) : Env' → Res (List D) := fun env => (m env).bind fun d => (ms env).bind fun ds => .ok (d :: ds)
variable {ms : Env' → Res (List D)}
theorem da_nil : DA X G M k [] aNil := pa_imp pa_nil fun σ H Q ⟨g, O, env, sr, q⟩ => q H [] (Same.refl H) (by cases k <;> constructor)
theorem da_consG (ha : DE X G M k e m) (hk : ∀ H O H' d v, Trk H O → RK k H O H' d v → RA1 kb H' O d v) (hr : DA X G M kb es ms) (hs : starEach (e :: es) X.env = (false, eval e X.env) :: starEach es X.env) : DA X G M kb (e :: es) (aCons m ms) :=
  pa_imp (pa_cons ha hr hs) fun σ H Q ⟨g, O, env, sr, q⟩ => by
    refine ⟨g, O, env, sr, ?_⟩
    unfold aCons at q
    cases h : m env with
    | err => rw [h] at q; exact q
    | exc c d => rw [h] at q; exact q
    | ok d =>
      rw [h, Res.bind_ok] at q
      intro H1 v1 s1 r1
      refine ⟨g, O, env, sr.grow s1, ?_⟩
      cases h2 : ms env with
      | err => rw [h2] at q; exact q
      | exc c d => rw [h2] at q; exact XW.grow s1 q
      | ok ds =>
        rw [h2, Res.bind_ok] at q
        exact fun H2 vs s2 r2 => q H2 _ (s1.trans s2) (RAk.cons s2 (hk _ _ _ _ _ sr.tr r1) r2)
theorem da_cons (ha : DE X G M .pl e m) (hr : DA X G M .pl es ms) (hs : starEach (e :: es) X.env = (false, eval e X.env) :: starEach es X.env := by rfl) : DA X G M .pl (e :: es) (aCons m ms) := da_consG ha (fun _ _ _ _ _ _ r => r) hr hs
theorem da_consC (ha : DE X G M k e m) (hr : DA X G M .co es ms) (hs : starEach (e :: es) X.env = (false, eval e X.env) :: starEach es X.env := by rfl) : DA X G M .co (e :: es) (aCons m ms) := da_consG ha.co (fun _ _ _ _ _ _ r => r) hr hs
/-- *e -/
def itemsD : D → Res (List D)
  | .list ds => .ok ds
  | .tuple ds => .ok ds
  | _ => .err
def aStar (m : Env' → Res D) (ms : Env' → Res (List D)) : Env' → Res (List D) := fun env => (m env).bind fun d => (itemsD d).bind fun xs => (ms env).bind fun ds => .ok (xs ++ ds)

theorem da_star {p : Pos} (ha : DE X G M ka e m) (hr : DA X G M kb es ms) (hs : starEach (.Starred e p :: es) X.env = (true, eval e X.env) :: starEach es X.env := by rfl) : DA X G M kb (.Starred e p :: es) (aStar m ms) :=
  pa_imp (StX.pa_star ha.co hr hs) fun σ H Q ⟨g, O, env, sr, q⟩ => by
    refine ⟨g, O, env, sr, ?_⟩
    unfold aStar at q
    cases h : m env with
    | err => rw [h] at q; exact q
    | exc c d => rw [h] at q; exact q
    | ok d =>
      rw [h, Res.bind_ok] at q
      intro H1 v1 s1 r1
      have fin : ∀ (xs : List D) (vs : List V), RpA H1 O xs vs → (match ((ms env).bind fun ds => Res.ok (xs ++ ds)) with
          | .ok ds => ∀ H' vs, Same H H' → RAk kb H' O ds vs → Q vs H' | .exc c d => XW G O σ H c d | .err => False) → tAs G M kb ms σ H1 fun ys H2 => Q (vs ++ ys) H2 := by
        intro xs vs r q
        refine ⟨g, O, env, sr.grow s1, ?_⟩
        cases h2 : ms env with
        | err => rw [h2] at q; exact q
        | exc c d => rw [h2] at q; exact XW.grow s1 q
        | ok ds =>
          rw [h2, Res.bind_ok] at q
          exact fun H2 vs' s2 r2 => q H2 _ (s1.trans s2) (RAk.append s2 r r2)
      cases d <;> simp only [itemsD, Res.bind_err] at q
      case list xs =>
        obtain ⟨a, vs, rfl, e1, r2⟩ := Rc.list_inv r1
        exact ⟨a, vs, rfl, .inr (Rd.seqL e1), fin xs vs r2 q⟩
      case tuple xs =>
        obtain ⟨a, vs, rfl, e1, r2⟩ := Rc.tuple_inv r1
        exact ⟨a, vs, rfl, .inl (Rd.seqT e1), fin xs vs r2 q⟩

/-! ### displays -/
def mList (ms : Env' → Res (List D)) : Env' → Res D := fun env => (ms env).bind fun ds => if ds.length ≤ sizeLine then .ok (.list ds) else .err
def mTup (ms : Env' → Res (List D)) : Env' → Res D := fun env => (ms env).bind fun ds => if ds.length ≤ sizeLine then .ok (.tuple ds) else .err
theorem de_list (h : DA X G M .pl es ms) : DE X G M .fr (.List es pos) (mList ms) := pe_imp (pe_lst h) fun σ H Q ⟨g, O, env, sr, q⟩ => by
  refine ⟨g, O, env, sr, ?_⟩
  unfold mList at q
  cases h : ms env with
  | err => rw [h] at q; exact q
  | exc c d => rw [h] at q; exact q
  | ok ds =>
    rw [h, Res.bind_ok] at q
    intro H1 vs s1 r1
    by_cases hz : ds.length ≤ sizeLine
    · rw [if_pos hz] at q
      have r2 : RpA H1 O ds vs := r1
      refine ⟨by rw [← r2.length]; exact hz, fun p hp => q _ _ (s1.trans (same_new hp)) ?_⟩
      exact RK.back s1 (fr_list (Trk.grow sr.tr s1) hp r2)
    · rw [if_neg hz] at q
      exact q.elim
theorem de_tup {x1} (h : DA X G M .pl es ms) : DE X G M .pl (.Tuple es x1 pos) (mTup ms) := pe_imp (pe_tup h) fun σ H Q ⟨g, O, env, sr, q⟩ => by
  refine ⟨g, O, env, sr, ?_⟩
  unfold mTup at q
  cases h : ms env with
  | err => rw [h] at q; exact q
  | exc c d => rw [h] at q; exact q
  | ok ds =>
    rw [h, Res.bind_ok] at q
    intro H1 vs s1 r1
    by_cases hz : ds.length ≤ sizeLine
    · rw [if_pos hz] at q
      have r2 : RpA H1 O ds vs := r1
      exact ⟨by rw [← r2.length]; exact hz, fun p hp => q _ _ (s1.trans (same_new hp)) (pl_tup (Trk.grow sr.tr s1) hp r2)⟩
    · rw [if_neg hz] at q
      exact q.elim

/-! ### calls of built-ins by values -/
def CB (k : Kd) (ka : Kd) (r : List V → Hp → VK → Prop) (f : List D → Option D) : Prop := ∀ {H : Hp} {O : AS} {vs : List V} {ds : List D} {d : D} {Q : VK}, Trk H O → RAk ka H O ds vs → f ds = some d →
  (∀ H' v, Same H H' → RK k H O H' d v → Q v H') → r vs H Q
def mCB (f : List D → Option D) (ms : Env' → Res (List D)) : Env' → Res D := fun env => (ms env).bind fun ds => Res.of (f ds)
theorem tCB_ok {r : List V → Hp → VK → Prop} {f : List D → Option D} (hC : CB k ka r f) (σ : L2.St) (H : Hp) (Q : VK) (h : tE G M k (mCB f ms) σ H Q) : tCB r (tAs G M ka ms) σ H Q := by
  obtain ⟨g, O, env, sr, q⟩ := h
  refine ⟨g, O, env, sr, ?_⟩
  unfold mCB at q
  cases h : ms env with
  | err => rw [h] at q; exact q
  | exc c d => rw [h] at q; exact q
  | ok ds =>
    rw [h, Res.bind_ok] at q
    intro H1 vs s1 r1
    cases hf : f ds with
    | none => rw [hf] at q; exact q.elim
    | some d => rw [hf] at q; exact hC (Trk.grow sr.tr s1) r1 hf fun H' v s r => q H' v (s1.trans s) (RK.back s1 r)
theorem de_callB {r : List V → Hp → VK → Prop} {f : List D → Option D} {x : Str} {id : String} {p : Pos} (hc : CallR X (.builtin id) r) (hC : CB k ka r f) (hg : Gl X x) (hm : X.mg x = none) (hv : bootBuiltins x = some (.builtin id)) (ha : DA X G M ka (e :: es) ms) (hn : x ≠ "__name__" := by decide) (hdb : (x == ("__debug__" : Str)) = false := by decide)
    (he : starEach (e :: es) X.env = (false, eval e X.env) :: starEach es X.env := by rfl) (hpl : (backTo pos (starEach es X.env)).any (·.1) = false := by rfl) : DE X G M k (.Call (.Name x p) (e :: es) [] pos) (mCB f ms) := pe_imp (pe_callB hc hg hm hv ha hn hdb he hpl) (tCB_ok hC)
theorem de_callTy {r : List V → Hp → VK → Prop} {f : List D → Option D} {x : Str} {T : String} {p : Pos} (hc : CallR X (.type T) r) (hC : CB k ka r f) (hg : Gl X x) (hm : X.mg x = none) (hv : bootBuiltins x = some (.type T)) (ha : DA X G M ka (e :: es) ms) (hn : x ≠ "__name__" := by decide) (hdb : (x == ("__debug__" : Str)) = false := by decide)
    (he : starEach (e :: es) X.env = (false, eval e X.env) :: starEach es X.env := by rfl) (hpl : (backTo pos (starEach es X.env)).any (·.1) = false := by rfl) : DE X G M k (.Call (.Name x p) (e :: es) [] pos) (mCB f ms) := pe_imp (pe_callTy hc hg hm hv ha hn hdb he hpl) (tCB_ok hC)
theorem RcA.one {H : Hp} {O : AS} {d : D} {vs : List V} (r : RcA H O [d] vs) : ∃ v, vs = [v] ∧ Rc H O d v := by
  cases r with | cons a b => cases b; exact ⟨_, rfl, a⟩
theorem RcA.two {H : Hp} {O : AS} {d e : D} {vs : List V} (r : RcA H O [d, e] vs) : ∃ v w, vs = [v, w] ∧ Rc H O d v ∧ Rc H O e w := by
  cases r with | cons a b => cases b with | cons b c => cases c; exact ⟨_, _, rfl, a, b⟩
def lenD : List D → Option D
  | [.list ds] => some (.int ds.length)
  | [.tuple ds] => some (.int ds.length)
  | [.str x] => if x.length ≤ sizeLine then some (.int x.length) else none
  | _ => none
theorem cb_len {K : PySem.W.Frag} : CB .pl .co (fun xs H Q => ∃ x n, xs = [x] ∧ LenV K x H n ∧ Q (.int n) H) lenD := by
  intro H O vs ds d Q tr r hf q
  unfold lenD at hf
  split at hf
  · cases hf
    obtain ⟨v, rfl, r1⟩ := RcA.one r
    obtain ⟨p, xs, rfl, e1, r2⟩ := r1.list_inv
    exact ⟨_, _, rfl, .inl ⟨xs, Rd.seqL e1, r2.length⟩, q H _ (Same.refl H) (.int _)⟩
  · cases hf
    obtain ⟨v, rfl, r1⟩ := RcA.one r
    obtain ⟨p, xs, rfl, e1, r2⟩ := r1.tuple_inv
    exact ⟨_, _, rfl, .inr ⟨xs, Rd.seqT e1, r2.length⟩, q H _ (Same.refl H) (.int _)⟩
  · split at hf
    · rename_i hz
      cases hf
      obtain ⟨v, rfl, r1⟩ := RcA.one r
      cases r1.str_inv
      exact ⟨_, _, rfl, ⟨hz, rfl⟩, q H _ (Same.refl H) (.int _)⟩
    · cases hf
  · cases hf
def intD : List D → Option D
  | [.int i] => some (.int i)
  | [.bool b] => some (.int (if b then 1 else 0))
  | _ => none
theorem cb_int : CB .pl .co (fun xs H Q => (∃ i, xs = [.int i] ∧ Q (.int i) H) ∨ ∃ k, xs = [.bl k] ∧ Q (.int (if k then 1 else 0)) H) intD := by
  intro H O vs ds d Q tr r hf q
  unfold intD at hf
  split at hf
  · cases hf
    obtain ⟨v, rfl, r1⟩ := RcA.one r
    cases r1.int_inv
    exact .inl ⟨_, rfl, q H _ (Same.refl H) (.int _)⟩
  · cases hf
    obtain ⟨v, rfl, r1⟩ := RcA.one r
    cases r1.bl_inv
    exact .inr ⟨_, rfl, q H _ (Same.refl H) (.int _)⟩
  · cases hf
def int1 (g : Int → Int) : List D → Option D
  | [.int i] => some (.int (g i))
  | _ => none
def int2 (g : Int → Int → Int) : List D → Option D
  | [.int i, .int j] => some (.int (g i j))
  | _ => none
abbrev absD := int1 fun i => if i < 0 then -i else i
abbrev maxD := int2 fun i j => if j > i then j else i
abbrev minD := int2 fun i j => if j < i then j else i
theorem cb_abs : CB .pl .co (fun xs H Q => ∃ i, xs = [.int i] ∧ Q (.int (if i < 0 then -i else i)) H) absD := by
  intro H O vs ds d Q tr r hf q
  unfold absD int1 at hf
  split at hf
  · cases hf
    obtain ⟨v, rfl, r1⟩ := RcA.one r
    cases r1.int_inv
    exact ⟨_, rfl, q H _ (Same.refl H) (.int _)⟩
  · cases hf
theorem cb_int2 {g : Int → Int → Int} : CB .pl .co (fun xs H Q => ∃ i j, xs = [.int i, .int j] ∧ Q (.int (g i j)) H) (int2 g) := by
  intro H O vs ds d Q tr r hf q
  unfold int2 at hf
  split at hf
  · cases hf
    obtain ⟨v, w, rfl, r1, r2⟩ := RcA.two r
    cases r1.int_inv; cases r2.int_inv
    exact ⟨_, _, rfl, q H _ (Same.refl H) (.int _)⟩
  · cases hf
theorem cb_max : CB .pl .co (fun xs H Q => ∃ i j, xs = [.int i, .int j] ∧ Q (.int (if j > i then j else i)) H) maxD := cb_int2
theorem cb_min : CB .pl .co (fun xs H Q => ∃ i j, xs = [.int i, .int j] ∧ Q (.int (if j < i then j else i)) H) minD := cb_int2
def listD : List D → Option D
  | [.list ds] => some (.list ds)
  | [.tuple ds] => some (.list ds)
  | _ => none
theorem cb_list {K : PySem.W.Frag} : CB .fr .co (fun xs H Q => ∃ p ys, xs = [.ref p] ∧ (SqL K H p ys ∨ SqT K H p ys) ∧ ∀ l, H l = none → Q (.ref l) (upd H l (.lst ys))) listD := by
  intro H O vs ds d Q tr r hf q
  unfold listD at hf
  split at hf
  · cases hf
    obtain ⟨v, rfl, r1⟩ := RcA.one r
    obtain ⟨p, xs, rfl, e1, r2⟩ := r1.list_inv
    exact ⟨_, _, rfl, .inl (Rd.seqL e1), fun l hl => q _ _ (same_new hl) (fr_list tr hl r2)⟩
  · cases hf
    obtain ⟨v, rfl, r1⟩ := RcA.one r
    obtain ⟨p, xs, rfl, e1, r2⟩ := r1.tuple_inv
    exact ⟨_, _, rfl, .inr (Rd.seqT e1), fun l hl => q _ _ (same_new hl) (fr_list tr hl r2)⟩
  · cases hf
def tupleD : List D → Option D
  | [.list ds] => some (.tuple ds)
  | [.tuple ds] => some (.tuple ds)
  | _ => none
theorem cb_tuple {K : PySem.W.Frag} : CB .pl .co (fun xs H Q => ∃ p ys, xs = [.ref p] ∧ ((SqL K H p ys ∧ ∀ l, H l = none → Q (.ref l) (upd H l (.tup ys))) ∨ (SqT K H p ys ∧ Q (.ref p) H))) tupleD := by
  intro H O vs ds d Q tr r hf q
  unfold tupleD at hf
  split at hf
  · cases hf
    obtain ⟨v, rfl, r1⟩ := RcA.one r
    obtain ⟨p, xs, rfl, e1, r2⟩ := r1.list_inv
    exact ⟨_, _, rfl, .inl ⟨Rd.seqL e1, fun l hl => q _ _ (same_new hl) (pl_tup tr hl r2)⟩⟩
  · cases hf
    obtain ⟨v, rfl, r1⟩ := RcA.one r
    obtain ⟨p, xs, rfl, e1, r2⟩ := r1.tuple_inv
    refine ⟨_, _, rfl, .inr ⟨Rd.seqT e1, q _ _ (Same.refl H) ?_⟩⟩
    cases r1 with
    | of r => exact r
    | rt r => cases r
  · cases hf
variable {p : Pos}
theorem de_len (hg : Gl X "len") (hm : X.mg "len" = none) (ha : DA X G M .co [e] ms) (he : starEach [e] X.env = [(false, eval e X.env)] := by rfl) : DE X G M .pl (.Call (.Name "len" p) [e] [] pos) (mCB lenD ms) := de_callB call_len cb_len hg hm boot_len ha (he := he)
end
end DL

namespace DL
open PySem PySem.Spec L2

inductive Out where
  | nx (e : Env') | rt (d : D) | bk (e : Env') | ct (e : Env') | exc (c : Str) (d : D) (e : Env') | err
/-- the modes at break and continue, at an exception; how a result is owned -/
structure Lp where
  Mb : List Md
  Mx : List Md
  kr : Kd
def tS (G : Gd) (L : Lp) (M M' : List Md) (m : Env' → Out) : TS := fun E σ H => ∃ (g : Gr G.ex) (O : AS) (env : Env'), SR g.H0 g.O0 M O env σ H ∧ match m env with
  | .nx e => ∀ σ' H' O', Sub H O H' O' → SR g.H0 g.O0 M' O' e σ' H' → E.nx σ' H'
  | .rt d => ∀ H' v, Same g.H0 H' → RK L.kr g.H0 g.O0 H' d v → E.rt v H'
  | .bk e => ∀ σ' H' O', Sub H O H' O' → SR g.H0 g.O0 L.Mb O' e σ' H' → E.bk σ' H'
  | .ct e => ∀ σ' H' O', Sub H O H' O' → SR g.H0 g.O0 L.Mb O' e σ' H' → E.ct σ' H'
  | .exc c d e => ∀ σ' H' O' dd cls va, Sub H O H' O' → SR g.H0 g.O0 L.Mx O' e σ' H' → G.mg c = some cls → H' dd = some (.xd [(("at" : Str), va)]) → Rp H' O' d va → G.W cls (some dd) σ' H'
  | .err => False
def DS (X : Cx) (G : Gd) (L : Lp) (M M' : List Md) (st : Stmt) (m : Env' → Out) : Prop := PS X st (tS G L M M' m)
def DSs (X : Cx) (G : Gd) (L : Lp) (M M' : List Md) (sts : List Stmt) (m : Env' → Out) : Prop := PSs X sts (tS G L M M' m)
theorem ps_imp {X : Cx} {e : Stmt} {t t' : TS} (h : PS X e t) (i : ∀ E σ H, t' E σ H → t E σ H) : PS X e t' := ⟨fun pins s σ H D I q => h.run pins s σ H D I (i D σ H q)⟩
theorem pss_imp {X : Cx} {e : List Stmt} {t t' : TS} (h : PSs X e t) (i : ∀ E σ H, t' E σ H → t E σ H) : PSs X e t' := ⟨fun pins s σ H D I q => h.run pins s σ H D I (i D σ H q)⟩

/-! ### modes forgotten -/
/-- each known mode of the second list is the first one's -/
def mle : List Md → List Md → Bool
  | _, [] => true
  | m :: ms, n :: ns => (decide (n = .un) || decide (m = n)) && mle ms ns
  | [], n :: ns => decide (n = .un) && mle [] ns
theorem mle_get : ∀ {M N : List Md} {i : Nat} {md : Md}, mle M N = true → N[i]? = some md → md ≠ .un → M[i]? = some md
  | _, [], i, md, _, h, _ => by simp at h
  | m :: ms, n :: ns, 0, md, h, e, u => by
    simp only [mle, Bool.and_eq_true, Bool.or_eq_true, decide_eq_true_eq] at h
    simp at e
    subst e
    rcases h.1 with z | z
    · exact absurd z u
    · simp [z]
  | m :: ms, n :: ns, i + 1, md, h, e, u => by
    simp only [mle, Bool.and_eq_true] at h
    simp only [List.getElem?_cons_succ] at e ⊢
    exact mle_get h.2 e u
  | [], n :: ns, 0, md, h, e, u => by
    simp only [mle, Bool.and_eq_true, decide_eq_true_eq] at h
    simp at e
    subst e
    exact absurd h.1 u
  | [], n :: ns, i + 1, md, h, e, u => by
    simp only [mle, Bool.and_eq_true] at h
    simp only [List.getElem?_cons_succ] at e
    have := mle_get (M := []) h.2 e u
    simp at this
theorem SR.weak {H0 H : Hp} {O0 O : AS} {M N : List Md} {env : Env'} {σ : L2.St} (h : mle M N = true) (r : SR H0 O0 M O env σ H) : SR H0 O0 N O env σ H where
  same := r.same
  sub0 := r.sub0
  tr := r.tr
  new := r.new
  len := r.len
  fz := fun i d hm he => r.fz i d (mle_get h hm (by simp)) he
  ow := fun i d hm he => r.ow i d (mle_get h hm (by simp)) he
  dist := fun i j d e a h1 h2 => r.dist i j d e a (mle_get h h1 (by simp)) (mle_get h h2 (by simp))
  exs := fun i a hm => r.exs i a (mle_get h hm (by simp))
/-- a slot is frozen -/
theorem SR.freeze {H0 H : Hp} {O0 O : AS} {M : List Md} {env : Env'} {σ : L2.St} (i : Nat) (r : SR H0 O0 M O env σ H) (ho : M[i]? = some .ow) : ∃ O', Sub H O H O' ∧ SR H0 O0 (M.set i .fz) O' env σ H := by
  cases he : env[i]? with
  | none =>
    refine ⟨O, Sub.refl _ _, ⟨r.same, r.sub0, r.tr, r.new, r.len, fun j d hm e => ?_, fun j d hm e => ?_, fun j l d e a h1 h2 h3 h4 => ?_, fun j a hm => ?_⟩⟩
    · have ne : j ≠ i := fun z => by subst z; rw [he] at e; cases e
      rw [List.getElem?_set_ne (Ne.symm ne)] at hm
      exact r.fz j d hm e
    · have ne : j ≠ i := fun z => by subst z; rw [he] at e; cases e
      rw [List.getElem?_set_ne (Ne.symm ne)] at hm
      exact r.ow j d hm e
    · have ne : j ≠ i := fun z => by subst z; rw [he] at h3; cases h3
      have ne2 : l ≠ i := fun z => by subst z; rw [he] at h4; cases h4
      rw [List.getElem?_set_ne (Ne.symm ne)] at h1
      rw [List.getElem?_set_ne (Ne.symm ne2)] at h2
      exact r.dist j l d e a h1 h2 h3 h4
    · have ne : j ≠ i := fun z => by
        subst z
        obtain ⟨hlt, _⟩ := List.getElem?_eq_some_iff.mp ho
        rw [List.getElem?_set_self hlt] at hm; cases hm
      rw [List.getElem?_set_ne (Ne.symm ne)] at hm
      exact r.exs _ _ hm
  | some o =>
    cases o with
    | none =>
      refine ⟨O, Sub.refl _ _, ⟨r.same, r.sub0, r.tr, r.new, r.len, fun j d hm e => ?_, fun j d hm e => ?_, fun j l d e a h1 h2 h3 h4 => ?_, fun j a hm => ?_⟩⟩
      · have ne : j ≠ i := fun z => by subst z; rw [he] at e; cases e
        rw [List.getElem?_set_ne (Ne.symm ne)] at hm
        exact r.fz j d hm e
      · have ne : j ≠ i := fun z => by subst z; rw [he] at e; cases e
        rw [List.getElem?_set_ne (Ne.symm ne)] at hm
        exact r.ow j d hm e
      · have ne : j ≠ i := fun z => by subst z; rw [he] at h3; cases h3
        have ne2 : l ≠ i := fun z => by subst z; rw [he] at h4; cases h4
        rw [List.getElem?_set_ne (Ne.symm ne)] at h1
        rw [List.getElem?_set_ne (Ne.symm ne2)] at h2
        exact r.dist j l d e a h1 h2 h3 h4
      · have ne : j ≠ i := fun z => by
          subst z
          obtain ⟨hlt, _⟩ := List.getElem?_eq_some_iff.mp ho
          rw [List.getElem?_set_self hlt] at hm; cases hm
        rw [List.getElem?_set_ne (Ne.symm ne)] at hm
        exact r.exs _ _ hm
    | some di =>
      obtain ⟨a, ea, oa, na, ra⟩ := r.ow i di ho he
      have less : ∀ b, (O b ∧ b ≠ a) → O b := fun b z => z.1
      have sub : Sub H O H (fun b => O b ∧ b ≠ a) := Sub.less less
      refine ⟨fun b => O b ∧ b ≠ a, sub, ⟨r.same, fun b hb => ⟨r.sub0 b hb, fun z => by subst z; exact na hb⟩, fun b hb => r.tr b hb.1, fun b hb => r.new b hb.1, r.len, fun j d hm e => ?_, fun j d hm e => ?_, fun j l d e a' h1 h2 h3 h4 => ?_, fun j a' hm => ?_⟩⟩
      · by_cases ne : j = i
        · subst ne
          rw [he] at e; cases e
          exact ⟨_, ea, ra.rp sub fun z => z.2 rfl⟩
        · rw [List.getElem?_set_ne (Ne.symm ne)] at hm
          obtain ⟨v, ev, q⟩ := r.fz j d hm e
          exact ⟨v, ev, q.mono sub⟩
      · have ne : j ≠ i := fun z => by
          subst z
          obtain ⟨hlt, _⟩ := List.getElem?_eq_some_iff.mp ho
          rw [List.getElem?_set_self hlt] at hm; cases hm
        rw [List.getElem?_set_ne (Ne.symm ne)] at hm
        obtain ⟨b, eb, ob, nb, rb⟩ := r.ow j d hm e
        refine ⟨b, eb, ⟨ob, fun z => ?_⟩, nb, rb.mono sub rfl⟩
        subst z
        exact ne (r.dist j i d di b hm ho e he eb ea)
      · have hne : ∀ {x : Nat}, (M.set i .fz)[x]? = some Md.ow → x ≠ i := fun {x} hm z => by
          subst z
          obtain ⟨hlt, _⟩ := List.getElem?_eq_some_iff.mp ho
          rw [List.getElem?_set_self hlt] at hm; cases hm
        rw [List.getElem?_set_ne (Ne.symm (hne h1))] at h1
        rw [List.getElem?_set_ne (Ne.symm (hne h2))] at h2
        exact r.dist j l d e a' h1 h2 h3 h4
      · have ne : j ≠ i := fun z => by
          subst z
          obtain ⟨hlt, _⟩ := List.getElem?_eq_some_iff.mp ho
          rw [List.getElem?_set_self hlt] at hm; cases hm
        rw [List.getElem?_set_ne (Ne.symm ne)] at hm
        exact r.exs _ _ hm
/-- a slot is set, to frozen data -/
theorem SR.setF {H0 H : Hp} {O0 O : AS} {M : List Md} {env : Env'} {σ : L2.St} {d : D} {v : V} (i : Nat) (r : SR H0 O0 M O env σ H) (q : Rp H O d v) : SR H0 O0 (M.set i .fz) O (env.set i (some d)) (σ.set i (some v)) H where
  same := r.same
  sub0 := r.sub0
  tr := r.tr
  new := r.new
  len := by simpa using r.len
  fz := fun j e hm he => by
    by_cases ne : j = i
    · subst ne
      obtain ⟨hlt, _⟩ := List.getElem?_eq_some_iff.mp he
      have hlt' : j < env.length := by simpa using hlt
      rw [List.getElem?_set_self hlt'] at he
      cases he
      exact ⟨v, List.getElem?_set_self (by rw [← r.len]; exact hlt'), q⟩
    · rw [List.getElem?_set_ne (Ne.symm ne)] at hm he ⊢
      exact r.fz j e hm he
  ow := fun j e hm he => by
    by_cases ne : j = i
    · subst ne
      obtain ⟨hlt, _⟩ := List.getElem?_eq_some_iff.mp hm
      rw [List.getElem?_set_self (by simpa using hlt)] at hm
      cases hm
    · rw [List.getElem?_set_ne (Ne.symm ne)] at hm he ⊢
      exact r.ow j e hm he
  dist := fun j l e f a h1 h2 h3 h4 h5 h6 => by
    have hne : ∀ {x : Nat}, (M.set i .fz)[x]? = some Md.ow → x ≠ i := fun {x} hm z => by
      subst z
      obtain ⟨hlt, _⟩ := List.getElem?_eq_some_iff.mp hm
      rw [List.getElem?_set_self (by simpa using hlt)] at hm; cases hm
    have n1 := hne h1
    have n2 := hne h2
    rw [List.getElem?_set_ne (Ne.symm n1)] at h1 h3 h5
    rw [List.getElem?_set_ne (Ne.symm n2)] at h2 h4 h6
    exact r.dist j l e f a h1 h2 h3 h4 h5 h6
  exs := fun j a hm => by
    have ne : j ≠ i := fun z => by
      subst z
      obtain ⟨hlt, _⟩ := List.getElem?_eq_some_iff.mp hm
      rw [List.getElem?_set_self (by simpa using hlt)] at hm; cases hm
    rw [List.getElem?_set_ne (Ne.symm ne)] at hm ⊢
    exact r.exs j a hm
/-- .. to an object of its own at a new address -/
theorem SR.setO {H0 H H' : Hp} {O0 O : AS} {M : List Md} {env : Env'} {σ : L2.St} {d : D} {p : Addr} (i : Nat) (r : SR H0 O0 M O env σ H) (s : Same H H') (hp : H p = none) (q : Rt H' (fun b => O b ∨ b = p) d p) :
    Sub H O H' (fun b => O b ∨ b = p) ∧ SR H0 O0 (M.set i .ow) (fun b => O b ∨ b = p) (env.set i (some d)) (σ.set i (some (.ref p))) H' := by
  have sub : Sub H O H' (fun b => O b ∨ b = p) := (Sub.more hp).trans (Sub.same s _)
  refine ⟨sub, ⟨r.same.trans s, fun a h => .inl (r.sub0 a h), fun a h => ?_, fun a h => ?_, by simpa using r.len, fun j e hm he => ?_, fun j e hm he => ?_, fun j l e f a h1 h2 h3 h4 h5 h6 => ?_, fun j a hm => ?_⟩⟩
  · rcases h with h | rfl
    · exact Trk.grow r.tr s a h
    · cases q with
      | lst e _ => exact ⟨_, e, trivial⟩
      | dK e _ => exact ⟨_, e, trivial⟩
      | dT e _ => exact ⟨_, e, trivial⟩
  · rcases h with h | rfl
    · exact r.new a h
    · exact .inr (r.same.free hp)
  · have ne : j ≠ i := fun z => by
      subst z
      obtain ⟨hlt, _⟩ := List.getElem?_eq_some_iff.mp hm
      rw [List.getElem?_set_self (by simpa using hlt)] at hm
      cases hm
    rw [List.getElem?_set_ne (Ne.symm ne)] at hm he ⊢
    obtain ⟨v, ev, qv⟩ := r.fz j e hm he
    exact ⟨v, ev, qv.mono sub⟩
  · by_cases ne : j = i
    · subst ne
      obtain ⟨hlt, _⟩ := List.getElem?_eq_some_iff.mp he
      have hlt' : j < env.length := by simpa using hlt
      rw [List.getElem?_set_self hlt'] at he
      cases he
      refine ⟨p, List.getElem?_set_self (by rw [← r.len]; exact hlt'), .inr rfl, fun z => ?_, q⟩
      exact (Trk.not r.tr hp) (r.sub0 p z)
    · rw [List.getElem?_set_ne (Ne.symm ne)] at hm he ⊢
      obtain ⟨a, ea, oa, na, ra⟩ := r.ow j e hm he
      exact ⟨a, ea, .inl oa, na, ra.same s sub⟩
  · have new : ∀ {x : Nat} {y : D} {b : Addr}, M[x]? = some .ow → env[x]? = some (some y) → σ[x]? = some (some (.ref b)) → b ≠ p := fun {x y b} hm he hs z => by
      subst z
      obtain ⟨b', eb, ob, _, _⟩ := r.ow x y hm he
      rw [hs] at eb
      cases eb
      exact Trk.not r.tr hp ob
    have self : ∀ {x : Nat} {y : D} {b : Addr}, (env.set x (some d))[x]? = some (some y) → (σ.set x (some (.ref p)))[x]? = some (some (V.ref b)) → b = p := fun {x y b} he hs => by
      obtain ⟨hlt, _⟩ := List.getElem?_eq_some_iff.mp hs
      rw [List.getElem?_set_self (by simpa using hlt)] at hs
      cases hs; rfl
    by_cases n1 : j = i
    · subst n1
      by_cases n2 : l = j
      · exact n2.symm
      · rw [List.getElem?_set_ne (Ne.symm n2)] at h2 h4 h6
        have e1 := self h3 h5
        subst e1
        exact absurd rfl (new h2 h4 h6)
    · by_cases n2 : l = i
      · subst n2
        rw [List.getElem?_set_ne (Ne.symm n1)] at h1 h3 h5
        have e1 := self h4 h6
        subst e1
        exact absurd rfl (new h1 h3 h5)
      · rw [List.getElem?_set_ne (Ne.symm n1)] at h1 h3 h5
        rw [List.getElem?_set_ne (Ne.symm n2)] at h2 h4 h6
        exact r.dist j l e f a h1 h2 h3 h4 h5 h6
  · have ne : j ≠ i := fun z => by
      subst z
      obtain ⟨hlt, _⟩ := List.getElem?_eq_some_iff.mp hm
      rw [List.getElem?_set_self (by simpa using hlt)] at hm; cases hm
    rw [List.getElem?_set_ne (Ne.symm ne)] at hm ⊢
    exact r.exs j a hm
/-- an owned object is written -/
theorem SR.write {H0 H : Hp} {O0 O : AS} {M : List Md} {env : Env'} {σ : L2.St} {d d' : D} {p : Addr} {o : HO} (i : Nat) (r : SR H0 O0 M O env σ H) (hm : M[i]? = some .ow) (he : env[i]? = some (some d)) (hs : σ[i]? = some (some (.ref p))) (mu : Mut (some o))
    (q : Rt (upd H p o) O d' p) : Sub H O (upd H p o) O ∧ SR H0 O0 M O (env.set i (some d')) σ (upd H p o) := by
  obtain ⟨a, ea, oa, na, ra⟩ := r.ow i d hm he
  rw [hs] at ea
  cases ea
  have sub : Sub H O (upd H p o) O := Sub.upd oa
  refine ⟨sub, ⟨fun b u e => ?_, r.sub0, fun b hb => ?_, r.new, by simpa using r.len, fun j e hm' he' => ?_, fun j e hm' he' => ?_, fun j l e f a' h1 h2 h3 h4 h5 h6 => ?_, r.exs⟩⟩
  · have ne : b ≠ p := fun z => by
      subst z
      rcases r.new b oa with z | z
      · exact na z
      · rw [e] at z; cases z
    rw [upd_ne ne]
    exact r.same b u e
  · by_cases ne : b = p
    · subst ne; exact ⟨o, upd_same, mu⟩
    · obtain ⟨u, e, m⟩ := r.tr b hb
      exact ⟨u, by rw [upd_ne ne]; exact e, m⟩
  · have ne : j ≠ i := fun z => by subst z; rw [hm] at hm'; cases hm'
    rw [List.getElem?_set_ne (Ne.symm ne)] at he'
    obtain ⟨v, ev, qv⟩ := r.fz j e hm' he'
    exact ⟨v, ev, qv.mono sub⟩
  · by_cases ne : j = i
    · subst ne
      obtain ⟨hlt, _⟩ := List.getElem?_eq_some_iff.mp he
      rw [List.getElem?_set_self hlt] at he'
      cases he'
      exact ⟨p, hs, oa, na, q⟩
    · rw [List.getElem?_set_ne (Ne.symm ne)] at he'
      obtain ⟨b, eb, ob, nb, rb⟩ := r.ow j e hm' he'
      refine ⟨b, eb, ob, nb, rb.mono sub (upd_ne fun z => ?_)⟩
      subst z
      exact ne (r.dist j i e d b hm' hm he' he eb hs)
  · have old : ∀ {x : Nat} {y : D}, (env.set i (some d'))[x]? = some (some y) → ∃ y', env[x]? = some (some y') := fun {x y} hx => by
      by_cases ne : x = i
      · subst ne; exact ⟨d, he⟩
      · rw [List.getElem?_set_ne (Ne.symm ne)] at hx
        exact ⟨y, hx⟩
    obtain ⟨e', h3'⟩ := old h3
    obtain ⟨f', h4'⟩ := old h4
    exact r.dist j l e' f' a' h1 h2 h3' h4' h5 h6
end DL

namespace DL
open PySem PySem.Spec L2
section
variable {X : Cx} {G : Gd} {L : Lp} {M M' M'' : List Md} {k ka kb : Kd} {a b e : Expr} {m ma mb : Env' → Res D} {nc : Env' → Res Bool} {pos : Pos} {st : Stmt} {sts : List Stmt} {o o1 o2 : Env' → Out}

def exOut {α : Type} (r : Res α) (env : Env') (f : α → Out) : Out := match r with
  | .ok d => f d
  | .exc c d => .exc c d env
  | .err => .err
@[simp] theorem exOut_ok {α : Type} (a : α) (env : Env') (f : α → Out) : exOut (.ok a) env f = f a := rfl
@[simp] theorem exOut_exc {α : Type} (c : Str) (d : D) (env : Env') (f : α → Out) : exOut (.exc c d) env f = .exc c d env := rfl
@[simp] theorem exOut_err {α : Type} (env : Env') (f : α → Out) : exOut .err env f = .err := rfl
/-- what is wanted of an outcome -/
def OutOk (G : Gd) (L : Lp) (M' : List Md) (g : Gr G.ex) (O : AS) (H : Hp) (E : Ends) : Out → Prop
  | .nx e => ∀ σ' H' O', Sub H O H' O' → SR g.H0 g.O0 M' O' e σ' H' → E.nx σ' H'
  | .rt d => ∀ H' v, Same g.H0 H' → RK L.kr g.H0 g.O0 H' d v → E.rt v H'
  | .bk e => ∀ σ' H' O', Sub H O H' O' → SR g.H0 g.O0 L.Mb O' e σ' H' → E.bk σ' H'
  | .ct e => ∀ σ' H' O', Sub H O H' O' → SR g.H0 g.O0 L.Mb O' e σ' H' → E.ct σ' H'
  | .exc c d e => ∀ σ' H' O' dd cls va, Sub H O H' O' → SR g.H0 g.O0 L.Mx O' e σ' H' → G.mg c = some cls → H' dd = some (.xd [(("at" : Str), va)]) → Rp H' O' d va → G.W cls (some dd) σ' H'
  | .err => False
theorem tS_iff {E : Ends} {σ : L2.St} {H : Hp} : tS G L M M' o E σ H ↔ ∃ (g : Gr G.ex) (O : AS) (env : Env'), SR g.H0 g.O0 M O env σ H ∧ OutOk G L M' g O H E (o env) := by
  unfold tS OutOk
  constructor
  · rintro ⟨g, O, env, sr, q⟩
    refine ⟨g, O, env, sr, ?_⟩
    cases h : o env <;> rw [h] at q <;> exact q
  · rintro ⟨g, O, env, sr, q⟩
    refine ⟨g, O, env, sr, ?_⟩
    cases h : o env <;> rw [h] at q <;> exact q
theorem OutOk.sub {g : Gr G.ex} {O O1 : AS} {H H1 : Hp} {E : Ends} {x : Out} (s : Sub H O H1 O1) (q : OutOk G L M' g O H E x) : OutOk G L M' g O1 H1 E x := by
  cases x with
  | nx e => exact fun σ' H' O' s' => q σ' H' O' (s.trans s')
  | rt d => exact q
  | bk e => exact fun σ' H' O' s' => q σ' H' O' (s.trans s')
  | ct e => exact fun σ' H' O' s' => q σ' H' O' (s.trans s')
  | exc c d e => exact fun σ' H' O' dd cls va s' => q σ' H' O' dd cls va (s.trans s')
  | err => exact q
/-- the same outcome, wanted of other ends -/
theorem OutOk.ends {g : Gr G.ex} {O : AS} {H : Hp} {E E' : Ends} {x : Out} (q : OutOk G L M' g O H E x) (h1 : E'.nx = E.nx) (h2 : E'.rt = E.rt) (h3 : E'.bk = E.bk) (h4 : E'.ct = E.ct) : OutOk G L M' g O H E' x := by
  cases x with
  | nx e => exact fun σ' H' O' s r => by rw [h1]; exact q σ' H' O' s r
  | rt d => exact fun H' v s r => by rw [h2]; exact q H' v s r
  | bk e => exact fun σ' H' O' s r => by rw [h3]; exact q σ' H' O' s r
  | ct e => exact fun σ' H' O' s r => by rw [h4]; exact q σ' H' O' s r
  | exc c d e => exact q
  | err => exact q
/-- an expression ahead of the rest -/
theorem tE_go {g : Gr G.ex} {O : AS} {env : Env'} {σ : L2.St} {H : Hp} {Q : VK} {E : Ends} {f : D → Out} (sr : SR g.H0 g.O0 M O env σ H) (hx : mle M L.Mx = true) (q : OutOk G L M' g O H E (exOut (m env) env f))
    (hk : ∀ d, OutOk G L M' g O H E (f d) → ∀ H' v, Same H H' → RK k H O H' d v → Q v H') : tE G M k m σ H Q := by
  refine ⟨g, O, env, sr, ?_⟩
  cases h : m env with
  | err => rw [h] at q; exact q
  | exc c d =>
    rw [h] at q
    exact fun H' dd cls va s h1 h2 h3 => q σ H' O dd cls va (Sub.same s O) ((sr.grow s).weak hx) h1 h2 h3
  | ok d =>
    rw [h] at q
    exact hk d q
theorem tT_go {g : Gr G.ex} {O : AS} {env : Env'} {σ : L2.St} {H : Hp} {Q : Bool → Hp → Prop} {E : Ends} {f : Bool → Out} (sr : SR g.H0 g.O0 M O env σ H) (hx : mle M L.Mx = true) (q : OutOk G L M' g O H E (exOut (nc env) env f))
    (hk : ∀ d, OutOk G L M' g O H E (f d) → ∀ H', Same H H' → Q d H') : tT G M nc σ H Q := by
  refine ⟨g, O, env, sr, ?_⟩
  cases h : nc env with
  | err => rw [h] at q; exact q
  | exc c d =>
    rw [h] at q
    exact fun H' dd cls va s h1 h2 h3 => q σ H' O dd cls va (Sub.same s O) ((sr.grow s).weak hx) h1 h2 h3
  | ok d =>
    rw [h] at q
    exact hk d q

/-! ### blocks -/
def oSkip : Env' → Out := .nx
def oSeq (o1 o2 : Env' → Out) : Env' → Out := fun env => match o1 env with
  | .nx e => o2 e
  | x => x
theorem dss_nil : DSs X G L M M [] oSkip := pss_imp pss_nil fun E σ H h => by
  obtain ⟨g, O, env, sr, q⟩ := tS_iff.mp h
  exact q σ H O (Sub.refl _ _) sr
theorem tS_seq {E : Ends} {σ : L2.St} {H : Hp} (h : tS G L M M'' (oSeq o1 o2) E σ H) : tS G L M M' o1 { E with nx := tS G L M' M'' o2 E } σ H := by
  obtain ⟨g, O, env, sr, q⟩ := tS_iff.mp h
  refine tS_iff.mpr ⟨g, O, env, sr, ?_⟩
  unfold oSeq at q
  cases h1 : o1 env with
  | nx e =>
    rw [h1] at q
    exact fun σ' H' O' s r => tS_iff.mpr ⟨g, O', e, r, q.sub s⟩
  | rt d => rw [h1] at q; exact q
  | bk e => rw [h1] at q; exact q
  | ct e => rw [h1] at q; exact q
  | exc c d e => rw [h1] at q; exact q
  | err => rw [h1] at q; exact q
theorem dss_cons (h1 : DS X G L M M' st o1) (h2 : DSs X G L M' M'' sts o2) : DSs X G L M M'' (st :: sts) (oSeq o1 o2) := pss_imp (pss_cons h1 h2) fun E σ H h => tS_seq h
theorem dss_one (h1 : DS X G L M M' st o) : DSs X G L M M' [st] o := pss_one h1
/-- an owned slot is frozen from here on -/
theorem dss_freeze (i : Nat) (hi : M[i]? = some .ow) (h : DSs X G L (M.set i .fz) M' sts o) : DSs X G L M M' sts o := pss_imp h fun E σ H h => by
  obtain ⟨g, O, env, sr, q⟩ := tS_iff.mp h
  obtain ⟨O', sub, sr'⟩ := sr.freeze i hi
  exact tS_iff.mpr ⟨g, O', env, sr', q.sub sub⟩
/-- modes are forgotten behind -/
theorem tS_weakR {N : List Md} {E : Ends} {σ : L2.St} {H : Hp} (hw : mle M' N = true) (h : tS G L M N o E σ H) : tS G L M M' o E σ H := by
  obtain ⟨g, O, env, sr, q⟩ := tS_iff.mp h
  refine tS_iff.mpr ⟨g, O, env, sr, ?_⟩
  cases h1 : o env with
  | nx e => rw [h1] at q; exact fun σ' H' O' s r => q σ' H' O' s (r.weak hw)
  | rt d => rw [h1] at q; exact q
  | bk e => rw [h1] at q; exact q
  | ct e => rw [h1] at q; exact q
  | exc c d e => rw [h1] at q; exact q
  | err => rw [h1] at q; exact q
theorem dss_weakR {N : List Md} (hw : mle M' N = true) (h : DSs X G L M M' sts o) : DSs X G L M N sts o := pss_imp h fun E σ H h => tS_weakR hw h
/-- .. ahead -/
theorem tS_weakL {N : List Md} {E : Ends} {σ : L2.St} {H : Hp} (hw : mle N M = true) (h : tS G L N M' o E σ H) : tS G L M M' o E σ H := by
  obtain ⟨g, O, env, sr, q⟩ := tS_iff.mp h
  exact tS_iff.mpr ⟨g, O, env, sr.weak hw, q⟩
theorem dss_weakL {N : List Md} (hw : mle N M = true) (h : DSs X G L M M' sts o) : DSs X G L N M' sts o := pss_imp h fun E σ H h => tS_weakL hw h
/-- a block that never goes on: any modes behind -/
theorem tS_stop {E : Ends} {σ : L2.St} {H : Hp} {N : List Md} (hn : ∀ env e, o env ≠ .nx e) (h : tS G L M N o E σ H) : tS G L M M' o E σ H := by
  obtain ⟨g, O, env, sr, q⟩ := tS_iff.mp h
  refine tS_iff.mpr ⟨g, O, env, sr, ?_⟩
  cases h1 : o env with
  | nx e => exact absurd h1 (hn env e)
  | rt d => rw [h1] at q; exact q
  | bk e => rw [h1] at q; exact q
  | ct e => rw [h1] at q; exact q
  | exc c d e => rw [h1] at q; exact q
  | err => rw [h1] at q; exact q
/-- a statement whose modes behind are any: pass, break, continue, return -/
theorem ds_pass : DS X G L M M (.Pass pos) oSkip := ps_imp ps_pass fun E σ H h => by
  obtain ⟨g, O, env, sr, q⟩ := tS_iff.mp h
  exact q σ H O (Sub.refl _ _) sr
theorem ds_break (hb : mle M L.Mb = true) : DS X G L M M' (.Break pos) .bk := ps_imp ps_break fun E σ H h => by
  obtain ⟨g, O, env, sr, q⟩ := tS_iff.mp h
  exact q σ H O (Sub.refl _ _) (sr.weak hb)
theorem ds_continue (hb : mle M L.Mb = true) : DS X G L M M' (.Continue pos) .ct := ps_imp ps_continue fun E σ H h => by
  obtain ⟨g, O, env, sr, q⟩ := tS_iff.mp h
  exact q σ H O (Sub.refl _ _) (sr.weak hb)
def oRet (m : Env' → Res D) : Env' → Out := fun env => exOut (m env) env .rt
theorem ds_ret (hx : mle M L.Mx = true) (hk : L.kr = .pl) (he : DE X G M .pl e m) : DS X G L M M' (.Return (some e) pos) (oRet m) := ps_imp (ps_ret he) fun E σ H h => by
  obtain ⟨g, O, env, sr, q⟩ := tS_iff.mp h
  refine tE_go sr hx q fun d q H' v s r => q H' v (sr.same.trans s) ?_
  rw [hk]
  exact Rp.mono (Sub.less sr.sub0) r
theorem ds_retF (hx : mle M L.Mx = true) (hk : L.kr = .fr) (he : DE X G M .fr e m) : DS X G L M M' (.Return (some e) pos) (oRet m) := ps_imp (ps_ret he) fun E σ H h => by
  obtain ⟨g, O, env, sr, q⟩ := tS_iff.mp h
  refine tE_go sr hx q fun d q H' v s r => q H' v (sr.same.trans s) ?_
  rw [hk]
  obtain ⟨p, e, n, r⟩ := r
  exact ⟨p, e, sr.same.free n, r.mono (Sub.less fun b z => z.elim (fun z => .inl (sr.sub0 b z)) .inr) rfl⟩
/-- return x, x owned -/
theorem ds_retO {i : Nat} (hi : M[i]? = some .ow) (hk : L.kr = .fr) (he : PE X e (tVar i)) : DS X G L M M' (.Return (some e) pos) (oRet (mVar i)) := ps_imp (ps_ret he) fun E σ H h => by
  obtain ⟨g, O, env, sr, q⟩ := tS_iff.mp h
  unfold oRet mVar at q
  cases he : env[i]? with
  | none => rw [he] at q; exact q.elim
  | some o =>
    cases o with
    | none => rw [he] at q; exact q.elim
    | some d =>
      rw [he] at q
      obtain ⟨p, ev, op, np, r⟩ := sr.ow i d hi he
      refine ⟨_, ev, q H _ sr.same ?_⟩
      rw [hk]
      refine ⟨p, rfl, ?_, r.mono (Sub.less fun b z => z.elim (fun z => sr.sub0 b z) fun z => z ▸ op) rfl⟩
      rcases sr.new p op with z | z
      · exact absurd z np
      · exact z
theorem ds_retN (hk : L.kr = .pl) : DS X G L M M' (.Return none pos) (fun _ => .rt .none) := ps_imp ps_retN fun E σ H h => by
  obtain ⟨g, O, env, sr, q⟩ := tS_iff.mp h
  exact q H _ sr.same (by rw [hk]; exact .non)
def oDrop (m : Env' → Res D) : Env' → Out := fun env => exOut (m env) env fun _ => .nx env
theorem ds_expr (hx : mle M L.Mx = true) (he : DE X G M k e m) (hs : swapsWith e none pos.line X.env = pure false := by rfl) : DS X G L M M (.Expr e pos) (oDrop m) := ps_imp (ps_expr he hs) fun E σ H h => by
  obtain ⟨g, O, env, sr, q⟩ := tS_iff.mp h
  exact tE_go sr hx q fun d q H' v s r => q σ H' O (Sub.same s O) (sr.grow s)
def oIf (nc : Env' → Res Bool) (o1 o2 : Env' → Out) : Env' → Out := fun env => exOut (nc env) env fun b => if b = true then o1 env else o2 env
theorem ds_if {c : Expr} {xs ys : List Stmt} (hx : mle M L.Mx = true) (hc : DT X G M c nc) (ha : DSs X G L M M' xs o1) (hb : DSs X G L M M' ys o2) : DS X G L M M' (.If c xs ys pos) (oIf nc o1 o2) := ps_imp (ps_if hc ha hb) fun E σ H h => by
  obtain ⟨g, O, env, sr, q⟩ := tS_iff.mp h
  refine tT_go sr hx q fun b q H' s => ?_
  cases b with
  | true =>
    rw [if_pos rfl] at q ⊢
    exact tS_iff.mpr ⟨g, O, env, sr.grow s, q.sub (Sub.same s O)⟩
  | false =>
    rw [if_neg Bool.false_ne_true] at q ⊢
    exact tS_iff.mpr ⟨g, O, env, sr.grow s, q.sub (Sub.same s O)⟩

/-! ### targets -/
/-- only the slots vs have changed -/
def Only' (vs : List Nat) (σ σ' : L2.St) : Prop := σ'.length = σ.length ∧ ∀ i, i ∉ vs → σ'[i]? = σ[i]?
theorem Only'.refl (σ : L2.St) : Only' [] σ σ := ⟨rfl, fun _ _ => rfl⟩
theorem Only'.trans {vs ws : List Nat} {σ σ1 σ2 : L2.St} (a : Only' vs σ σ1) (b : Only' ws σ1 σ2) : Only' (vs ++ ws) σ σ2 :=
  ⟨b.1.trans a.1, fun i h => (b.2 i fun z => h (List.mem_append_right _ z)).trans (a.2 i fun z => h (List.mem_append_left _ z))⟩
def tG (M M' : List Md) (ws : List Nat) (f : D → Env' → Option Env') : TG := fun v σ H Q => ∃ (ex : Option (Addr × D)) (g : Gr ex) (O : AS) (env : Env') (d : D), SR g.H0 g.O0 M O env σ H ∧ Rp H O d v ∧ match f d env with
  | some e => ∀ σ' H' O', Only' ws σ σ' → Same H H' → Sub H O H' O' → SR g.H0 g.O0 M' O' e σ' H' → O' = O → Q σ' H'
  | none => False
def tGs (M M' : List Md) (ws : List Nat) (f : List D → Env' → Option Env') : TGs := fun vs σ H Q => ∃ (ex : Option (Addr × D)) (g : Gr ex) (O : AS) (env : Env') (ds : List D), SR g.H0 g.O0 M O env σ H ∧ RpA H O ds vs ∧ match f ds env with
  | some e => ∀ σ' H' O', Only' ws σ σ' → Same H H' → Sub H O H' O' → SR g.H0 g.O0 M' O' e σ' H' → O' = O → Q σ' H'
  | none => False
def DG (X : Cx) (M M' : List Md) (ws : List Nat) (e : Expr) (f : D → Env' → Option Env') : Prop := PG X e (tG M M' ws f)
def DGs (X : Cx) (M M' : List Md) (ws : List Nat) (es : List Expr) (f : List D → Env' → Option Env') : Prop := PGs X es (tGs M M' ws f)
theorem pg_imp {X : Cx} {e : Expr} {t t' : TG} (h : PG X e t) (i : ∀ v σ H Q, t' v σ H Q → t v σ H Q) : PG X e t' := ⟨fun pins s σ H v u Q I r q => h.run pins s σ H v u Q I r (i v σ H Q q)⟩
theorem pgs_imp {X : Cx} {e : List Expr} {t t' : TGs} (h : PGs X e t) (i : ∀ v σ H Q, t' v σ H Q → t v σ H Q) : PGs X e t' := ⟨fun pins s σ H v u Q I r q => h.run pins s σ H v u Q I r (i v σ H Q q)⟩
def gN (i : Nat) : D → Env' → Option Env' := fun d env => some (env.set i (some d))
def gsN : List D → Env' → Option Env' := fun ds env => match ds with
  | [] => some env
  | _ => none
def gsC (f : D → Env' → Option Env') (fs : List D → Env' → Option Env') : List D → Env' → Option Env' := fun ds env => match ds with
  | d :: ds => (f d env).bind (fs ds)
  | [] => none
variable {f : D → Env' → Option Env'} {fs : List D → Env' → Option Env'} {es : List Expr} {ws ws' : List Nat}
theorem dg_nameG {i : Nat} {e : Expr} (h : PG X e (gName i)) : DG X M (M.set i .fz) [i] e (gN i) := pg_imp h fun v σ H Q ⟨ex, g, O, env, d, sr, r, q⟩ => q _ _ O ⟨by simp, fun j hj => by
  have ne : j ≠ i := fun z => hj (by simp [z])
  exact List.getElem?_set_ne (Ne.symm ne)⟩ (Same.refl _) (Sub.refl _ _) (sr.setF i r) rfl
theorem dg_name {i : Nat} {x : Str} (hN : X.N.Nodup) (hi : X.N[i]? = some x) (hx : Loc X.env.scope x) (hf : X.fn x = true ∨ X.env.scope.names.lookup x = some .local := by first | exact .inl rfl | exact .inr rfl | assumption) : DG X M (M.set i .fz) [i] (.Name x pos) (gN i) := dg_nameG (pg_name hN hi hx hf)
theorem dgs_nil : DGs X M M [] [] gsN := pgs_imp pgs_nil fun vs σ H Q ⟨ex, g, O, env, ds, sr, r, q⟩ => by
  cases r with
  | nil => exact ⟨rfl, q _ _ O (Only'.refl _) (Same.refl _) (Sub.refl _ _) sr rfl⟩
  | cons a b => exact q.elim
theorem dgs_cons (h1 : DG X M M' ws e f) (h2 : DGs X M' M'' ws' es fs) (hs : (assignEach (e :: es) X.env).map (·.2) = assign e X.env :: (assignEach es X.env).map (·.2) := by rfl) : DGs X M M'' (ws ++ ws') (e :: es) (gsC f fs) := pgs_imp (pgs_cons h1 h2 hs) fun vs σ H Q ⟨ex, g, O, env, ds, sr, r, q⟩ => by
  cases r with
  | nil => exact q.elim
  | cons a b =>
    refine ⟨_, _, rfl, ex, g, O, env, _, sr, a, ?_⟩
    unfold gsC at q
    simp only at q
    cases h : f _ env with
    | none => rw [h] at q; exact q
    | some e1 =>
      rw [h] at q
      exact fun σ' H' O' on sm s sr' eo => ⟨ex, g, O', e1, _, sr', b.mono s, by
        simp only [Option.bind_some] at q
        cases h2 : fs _ e1 with
        | none => rw [h2] at q; exact q
        | some e2 => rw [h2] at q; exact fun σ2 H2 O2 on2 sm2 s2 sr2 eo2 => q σ2 H2 O2 (on.trans on2) (sm.trans sm2) (s.trans s2) sr2 (eo2.trans eo)⟩
def gT' (n : Nat) (f : List D → Env' → Option Env') : D → Env' → Option Env' := fun d env => match d with
  | .tuple ds => if ds.length = n then f ds env else none
  | _ => none
theorem dg_tup {kk n : Nat} (hc : X.calm = true) (h : DGs X M M' ws es fs) (hn : (assignEach es X.env).length = n := by rfl) (hst : (assignEach es X.env).findIdx? (·.1) = none := by rfl) : DG X M M' ws (.Tuple es kk pos) (gT' n fs) := pg_imp (pg_tup hc h hn hst) fun v σ H Q ⟨ex, g, O, env, d, sr, r, q⟩ => by
  cases d <;> simp only [gT'] at q
  case tuple ds =>
    cases r with
    | tup h1 h2 h3 =>
      by_cases hl : ds.length = n
      · rw [if_pos hl] at q
        exact ⟨_, _, rfl, Rd.seqT h2, by rw [← h3.length]; exact hl, ex, g, O, env, ds, sr, h3, q⟩
      · rw [if_neg hl] at q
        exact q.elim
/-! ### assignment -/
def oAsg (m : Env' → Res D) (f : D → Env' → Option Env') : Env' → Out := fun env => exOut (m env) env fun d => match f d env with
  | some e => .nx e
  | none => .err
theorem ds_asg {tg e : Expr} (hx : mle M L.Mx = true) (he : DE X G M .pl e m) (hg : DG X M M' ws tg f) (hs : swapsWithSole [tg] e pos.line X.env = pure false := by rfl) (hw : swappedStores [tg] e X.env = pure none := by rfl) (h1 : (assignEach [tg] X.env).map (·.2) = [assign tg X.env] := by rfl) : DS X G L M M' (.Assign [tg] e pos) (oAsg m f) :=
  ps_imp (ps_asg he hg hs hw h1) fun E σ H h => by
    obtain ⟨g, O, env, sr, q⟩ := tS_iff.mp h
    refine tE_go sr hx q fun d q H' v s r => ⟨_, g, O, env, d, sr.grow s, r, ?_⟩
    cases h1 : f d env with
    | none => rw [h1] at q; exact q
    | some e1 => rw [h1] at q; exact fun σ2 H2 O2 _ _ s2 sr2 _ => q σ2 H2 O2 ((Sub.same s O).trans s2) sr2
/-- name = a new object -/
def oSet (i : Nat) (m : Env' → Res D) : Env' → Out := fun env => exOut (m env) env fun d => .nx (env.set i (some d))
theorem ds_setG {i : Nat} {st : Stmt} (hx : mle M L.Mx = true) (hp : ∀ te, PE X e te → PS X st (tAsg te (gName i))) (he : DE X G M .fr e m) : DS X G L M (M.set i .ow) st (oSet i m) := ps_imp (hp _ he) fun E σ H h => by
  obtain ⟨g, O, env, sr, q⟩ := tS_iff.mp h
  refine tE_go sr hx q fun d q H' v s r => ?_
  obtain ⟨p, rfl, n, r⟩ := r
  obtain ⟨sub, sr'⟩ := sr.setO i s n r
  exact q _ _ _ sub sr'
theorem ds_setO {i : Nat} {x : Str} {pos' : Pos} (hx : mle M L.Mx = true) (hN : X.N.Nodup) (hi : X.N[i]? = some x) (hl : Loc X.env.scope x) (he : DE X G M .fr e m) (hs : swapsWith e (some (.Name x pos')) pos.line X.env = pure false := by rfl)
    (hf : X.fn x = true ∨ X.env.scope.names.lookup x = some .local := by first | exact .inl rfl | exact .inr rfl | assumption) : DS X G L M (M.set i .ow) (.Assign [.Name x pos'] e pos) (oSet i m) := ds_setG hx (fun te h => ps_set hN hi hl h hs hf) he
theorem ds_setP {i : Nat} {st : Stmt} (hx : mle M L.Mx = true) (hp : ∀ te, PE X e te → PS X st (tAsg te (gName i))) (he : DE X G M .pl e m) : DS X G L M (M.set i .fz) st (oSet i m) := ps_imp (hp _ he) fun E σ H h => by
  obtain ⟨g, O, env, sr, q⟩ := tS_iff.mp h
  exact tE_go sr hx q fun d q H' v s r => q _ _ O (Sub.same s O) ((sr.grow s).setF i r)
theorem ds_set {i : Nat} {x : Str} {pos' : Pos} (hx : mle M L.Mx = true) (hN : X.N.Nodup) (hi : X.N[i]? = some x) (hl : Loc X.env.scope x) (he : DE X G M .pl e m) (hs : swapsWith e (some (.Name x pos')) pos.line X.env = pure false := by rfl)
    (hf : X.fn x = true ∨ X.env.scope.names.lookup x = some .local := by first | exact .inl rfl | exact .inr rfl | assumption) : DS X G L M (M.set i .fz) (.Assign [.Name x pos'] e pos) (oSet i m) := ds_setP hx (fun te h => ps_set hN hi hl h hs hf) he
/-- name op= e, ints and texts -/
def I2 (r : TIp) (f : D → D → Option D) : Prop := ∀ {H : Hp} {O : AS} {x y : V} {dx dy d : D} {Q : VK}, Trk H O → Rp H O dx x → Rp H O dy y → f dx dy = some d → (∀ H' v, Same H H' → Rp H' O d v → Q v H') → r x y H Q
def oAug (i : Nat) (f : D → D → Option D) (m : Env' → Res D) : Env' → Out := fun env => exOut (mVar i env) env fun x => exOut (m env) env fun y => match f x y with
  | some d => .nx (env.set i (some d))
  | none => .err
theorem ds_augG {i : Nat} {st : Stmt} {ti : TIp} {fo : D → D → Option D} (hx : mle M L.Mx = true) (hi : M[i]? = some .fz) (hp : ∀ te, PE X e te → PS X st (tAug i te ti)) (hI : I2 ti fo) (he : DE X G M .pl e m) : DS X G L M (M.set i .fz) st (oAug i fo m) := ps_imp (hp _ he) fun E σ H h => by
  obtain ⟨g, O, env, sr, q⟩ := tS_iff.mp h
  unfold oAug mVar at q
  cases e1 : env[i]? with
  | none => rw [e1] at q; exact q.elim
  | some o =>
    cases o with
    | none => rw [e1] at q; exact q.elim
    | some x =>
      rw [e1] at q
      obtain ⟨v, ev, r⟩ := sr.fz i x hi e1
      refine ⟨v, ev, tE_go sr hx q fun y q H1 w s r1 => ?_⟩
      cases hf : fo x y with
      | none => rw [hf] at q; exact q.elim
      | some d =>
        rw [hf] at q
        exact hI (Trk.grow sr.tr s) (r.mono (Sub.same s O)) r1 hf fun H' z s' r' => q _ _ O (Sub.same (s.trans s') O) ((sr.grow (s.trans s')).setF i r')
theorem Rp.int_inv {H : Hp} {O : AS} {i : Int} {v : V} (r : Rp H O (.int i) v) : v = .int i := Rc.int_inv (.of r)
theorem i2_add : I2 (ipI fun i j => i + j) (fun x y => match x, y with | .int i, .int j => some (.int (i + j)) | _, _ => none) := by
  intro H O x y dx dy d Q tr rx ry hf q
  cases dx <;> cases dy <;> simp only at hf <;> try cases hf
  cases rx.int_inv; cases ry.int_inv
  exact ⟨_, _, rfl, rfl, q H _ (Same.refl H) (.int _)⟩
theorem i2_sub : I2 (ipI fun i j => i - j) subD := by
  intro H O x y dx dy d Q tr rx ry hf q
  cases dx <;> cases dy <;> simp only [subD] at hf <;> try cases hf
  cases rx.int_inv; cases ry.int_inv
  exact ⟨_, _, rfl, rfl, q H _ (Same.refl H) (.int _)⟩
/-! ### methods of an owned list, as statements -/
def oMut (i : Nat) (f : D → List D → Option D) (ms : Env' → Res (List D)) : Env' → Out := fun env => exOut (mVar i env) env fun _ => exOut (ms env) env fun ds => match env[i]? with
  | some (some x) => match f x ds with
    | some d => .nx (env.set i (some d))
    | none => .err
  | _ => .err
/-- a statement that writes the object of slot i: at p it is d, behind it d' -/
def MutR (r : V → List V → Hp → VK → Prop) (f : D → List D → Option D) : Prop := ∀ {H : Hp} {O : AS} {p : Addr} {vs : List V} {dx : D} {ds : List D} {d : D} {Q : VK}, Rt H O dx p → RpA H O ds vs → f dx ds = some d →
  (∀ o, Mut (some o) → Rt (upd H p o) O d p → O p → Q .non (upd H p o)) → O p → r (.ref p) vs H Q
end
end DL

namespace DL
open PySem PySem.Spec L2
section
variable {X : Cx} {G : Gd} {L : Lp} {M M' M'' : List Md} {k ka kb : Kd} {a b e : Expr} {m ma mb : Env' → Res D} {ms : Env' → Res (List D)} {nc : Env' → Res Bool} {pos : Pos} {st : Stmt} {sts : List Stmt} {o o1 o2 : Env' → Out} {t : TA}
variable {f : D → Env' → Option Env'} {ws : List Nat}

/-! ### an owned list is written -/
theorem Rt.list_inv {H : Hp} {O : AS} {ds : List D} {p : Addr} (r : Rt H O (.list ds) p) : ∃ xs, H p = some (.lst xs) ∧ RpA H O ds xs := by
  cases r with | lst e q => exact ⟨_, e, q⟩
theorem tyV_list {K : PySem.W.Frag} {H : Hp} {p : Addr} {xs : List V} (e : H p = some (.lst xs)) : tyV K "list" (.ref p) H := .inl ⟨rfl, xs, SqL.of e⟩
/-- the items behind the method, by the items and the arguments -/
def LM (r : V → List V → Hp → VK → Prop) (fl : List D → List D → Option (List D)) : Prop := ∀ {H : Hp} {O : AS} {p : Addr} {xs vs : List V} {is ds js : List D} {Q : VK}, H p = some (.lst xs) → RpA H O is xs → RpA H O ds vs → ¬ (∃ q ∈ vs, q = .ref p) → fl is ds = some js →
  (∀ ys, RpA H O js ys → Q .non (upd H p (.lst ys))) → r (.ref p) vs H Q
def oLM (i : Nat) (fl : List D → List D → Option (List D)) (ms : Env' → Res (List D)) : Env' → Out := fun env => match env[i]? with
  | some (some (.list is)) => exOut (ms env) env fun ds => match fl is ds with
    | some js => .nx (env.set i (some (.list js)))
    | none => .err
  | _ => .err
theorem RpA.not_ref {H : Hp} {O : AS} {p : Addr} (ho : O p) : ∀ {ds : List D} {vs : List V}, RpA H O ds vs → ¬ (∃ q ∈ vs, q = .ref p)
  | _, _, .nil => fun ⟨q, h, _⟩ => nomatch h
  | _, _, .cons a b => fun ⟨q, h, e⟩ => by
    rcases List.mem_cons.mp h with z | z
    · subst z; subst e
      cases a with
      | lst h1 _ _ => exact h1 ho
      | tup h1 _ _ => exact h1 ho
      | dK h1 _ _ => exact h1 ho
      | dT h1 _ _ => exact h1 ho
    · exact RpA.not_ref ho b ⟨q, z, e⟩
theorem ds_lm {i : Nat} {st : Stmt} {r : V → List V → Hp → VK → Prop} {fl : List D → List D → Option (List D)} {es : List Expr} (hx : mle M L.Mx = true) (hi : M[i]? = some .ow) (hr : LM r fl) (ha : DA X G M .pl es ms)
    (hp : ∀ t, PA X es t → PS X st (tDrop (tBM X.K "list" r (tVar i) t))) : DS X G L M M st (oLM i fl ms) := ps_imp (hp _ ha) fun E σ H h => by
  obtain ⟨g, O, env, sr, q⟩ := tS_iff.mp h
  unfold oLM at q
  cases e1 : env[i]? with
  | none => rw [e1] at q; exact q.elim
  | some x =>
    cases x with
    | none => rw [e1] at q; exact q.elim
    | some x =>
      rw [e1] at q
      cases x with
      | list is =>
        obtain ⟨p, ev, op, np, rt⟩ := sr.ow i _ hi e1
        obtain ⟨xs, hp, rx⟩ := rt.list_inv
        refine ⟨_, ev, tyV_list hp, g, O, env, sr, ?_⟩
        simp only at q
        cases h1 : ms env with
        | err => rw [h1] at q; exact q
        | exc c d =>
          rw [h1] at q
          exact fun H' dd cls va s h1 h2 h3 => q σ H' O dd cls va (Sub.same s O) ((sr.grow s).weak hx) h1 h2 h3
        | ok ds =>
          rw [h1, exOut_ok] at q
          intro H1 vs s1 r1
          have r1 : RpA H1 O ds vs := r1
          cases h2 : fl is ds with
          | none => rw [h2] at q; exact q.elim
          | some js =>
            rw [h2] at q
            refine hr (s1 _ _ hp) (rx.mono (Sub.same s1 O)) r1 (r1.not_ref op) h2 fun ys ry => ?_
            obtain ⟨sub, sr'⟩ := (sr.grow s1).write i hi e1 ev (o := .lst ys) trivial (.lst upd_same (ry.mono (Sub.upd op)))
            exact q σ _ O ((Sub.same s1 O).trans sub) sr'
      | _ => exact q.elim
/-- xs.append(e) -/
def lApp : List D → List D → Option (List D) := fun is ds => match ds with
  | [d] => if is.length < sizeLine then some (is ++ [d]) else none
  | _ => none
theorem lm_append : LM rAppend lApp := by
  intro H O p xs vs is ds js Q hp rx rv _ hf q
  unfold lApp at hf
  split at hf
  · split at hf
    · rename_i hz
      cases hf
      cases rv with | cons a b =>
        cases b
        exact ⟨p, xs, _, rfl, rfl, hp, by rw [← rx.length]; exact hz, q _ (rx.append (.cons a .nil))⟩
    · cases hf
  · cases hf
theorem ds_append {i : Nat} {recv arg : Expr} {apos cpos spos : Pos} (hx : mle M L.Mx = true) (hi : M[i]? = some .ow) (hr : PE X recv (tVar i)) (ha : DE X G M .pl arg m)
    (hbase : attributeBase recv "append" X.env (eval recv X.env) = eval recv X.env := by rfl)
    (hfew : ((backTo cpos (starEach [arg] X.env)).all (fun x => !x.1) && (backToKw cpos (keywordEach [] X.env)).all (fun x => x.1.isSome)
      && decide ([arg].length + ([] : List Keyword).length + (if ([] : List Keyword).isEmpty then 0 else 1) < 30)) = true := by rfl)
    (hline : (apos.endLine == cpos.line) = true := by rfl) (hs : starEach [arg] X.env = [(false, eval arg X.env)] := by rfl)
    (hsw : swapsWith (.Call (.Attribute recv "append" apos) [arg] [] cpos) none spos.line X.env = pure false := by rfl) :
    DS X G L M M (.Expr (.Call (.Attribute recv "append" apos) [arg] [] cpos) spos) (oLM i lApp (aCons m aNil)) :=
  ds_lm hx hi lm_append (da_cons ha da_nil hs) fun t h => ps_expr (pe_bm PySem.F.plainAttrs_list PySem.F.slot_list_append PySem.F.type_list_append mt_append hr h hbase hfew hline hs) hsw
/-- xs.extend(ys), ys a list -/
def rExt2 : V → List V → Hp → VK → Prop := fun x vs H Q => ∃ l b xs zs, x = .ref l ∧ vs = [.ref b] ∧ H l = some (.lst xs) ∧ L2.Rd H b (.lst zs) ∧ xs.length + zs.length ≤ sizeLine ∧ Q .non (upd H l (.lst (xs ++ zs)))
theorem mt_ext2 : MtM X "list.extend" rExt2 := by
  intro pins s σ H x vs v us Q I rx rv h
  obtain ⟨l, b, xs, zs, rfl, rfl, hH, hB, hz, q⟩ := h
  cases rx
  obtain ⟨u, rfl, ru⟩ := rv.one
  cases ru
  obtain ⟨z, its, n, r, hl, e⟩ := I.lstM hH
  obtain ⟨z2, its2, n2, r2, e2⟩ := hB.ok I.hok
  have hl2 := r2.length
  have hsz : its.toArray.size + its2.toArray.size ≤ sizeLine := by rw [List.size_toArray, List.size_toArray]; omega
  have hlong : ¬ (!its.toArray.isEmpty && Builtin.List.listTooLong (its.toArray.size + its2.toArray.size)) = true := by
    rw [notLongL hsz, Bool.and_false]
    exact Bool.false_ne_true
  refine PySem.call_meets PySem.F.slot_list_extend ⟨_, e, rfl⟩ PySem.F.entry_list_extend (PySem.F.args_list_extend_2 _ _)
    (AutoSeq1.list_extend_list_list_0 l its.toArray n b its2.toArray n2 hlong (by first | omega | (rw [List.size_toArray]; omega) | (simp only [List.size_toArray] at *; omega)) (by first | omega | (rw [List.size_toArray]; omega) | (simp only [List.size_toArray] at *; omega))) ⟨e, e2, ?_⟩
  refine ⟨.non, _, I.lset (its' := its ++ its2) hH e (by simp) (r.append r2) ?_, rfl, q⟩
  rw [List.length_append]
  omega
def lExt : List D → List D → Option (List D) := fun is ds => match ds with
  | [.list js] => if is.length + js.length ≤ sizeLine then some (is ++ js) else none
  | _ => none
theorem lm_extend : LM rExt2 lExt := by
  intro H O p xs vs is ds js Q hp rx rv _ hf q
  unfold lExt at hf
  split at hf
  · split at hf
    · rename_i hz
      cases hf
      cases rv with | cons a b =>
        cases b
        cases a with | lst h1 h2 h3 =>
          exact ⟨p, _, xs, _, rfl, rfl, hp, h2, by rw [← rx.length, ← h3.length]; exact hz, q _ (rx.append h3)⟩
    · cases hf
  · cases hf
theorem ds_extend {i : Nat} {recv arg : Expr} {apos cpos spos : Pos} (hx : mle M L.Mx = true) (hi : M[i]? = some .ow) (hr : PE X recv (tVar i)) (ha : DE X G M .pl arg m)
    (hbase : attributeBase recv "extend" X.env (eval recv X.env) = eval recv X.env := by rfl)
    (hfew : ((backTo cpos (starEach [arg] X.env)).all (fun x => !x.1) && (backToKw cpos (keywordEach [] X.env)).all (fun x => x.1.isSome)
      && decide ([arg].length + ([] : List Keyword).length + (if ([] : List Keyword).isEmpty then 0 else 1) < 30)) = true := by rfl)
    (hline : (apos.endLine == cpos.line) = true := by rfl) (hs : starEach [arg] X.env = [(false, eval arg X.env)] := by rfl)
    (hsw : swapsWith (.Call (.Attribute recv "extend" apos) [arg] [] cpos) none spos.line X.env = pure false := by rfl) :
    DS X G L M M (.Expr (.Call (.Attribute recv "extend" apos) [arg] [] cpos) spos) (oLM i lExt (aCons m aNil)) :=
  ds_lm hx hi lm_extend (da_cons ha da_nil hs) fun t h => ps_expr (pe_bm PySem.F.plainAttrs_list PySem.F.slot_list_extend PySem.F.type_list_extend mt_ext2 hr h hbase hfew hline hs) hsw
/-- target = xs.pop() -/
def oPop (i : Nat) (f : D → Env' → Option Env') : Env' → Out := fun env => match env[i]? with
  | some (some (.list is)) => match is[is.length - 1]? with
    | some d => match f d (env.set i (some (.list is.dropLast))) with
      | some e => .nx e
      | none => .err
    | none => .err
  | _ => .err
theorem RpA.dropLast {H : Hp} {O : AS} {ds : List D} {vs : List V} (r : RpA H O ds vs) : RpA H O ds.dropLast vs.dropLast := by
  rw [List.dropLast_eq_take, List.dropLast_eq_take, r.length]
  exact r.take _
theorem ds_pop {i : Nat} {recv tg : Expr} {apos cpos : Pos} (hx : mle M L.Mx = true) (hi : M[i]? = some .ow) (hr : PE X recv (tVar i)) (hg : DG X M M' ws tg f)
    (hbase : attributeBase recv "pop" X.env (eval recv X.env) = eval recv X.env := by rfl) (hline : (apos.endLine == cpos.line) = true := by rfl)
    (hs : swapsWithSole [tg] (.Call (.Attribute recv "pop" apos) [] [] cpos) pos.line X.env = pure false := by rfl) (hw : swappedStores [tg] (.Call (.Attribute recv "pop" apos) [] [] cpos) X.env = pure none := by rfl) (h1 : (assignEach [tg] X.env).map (·.2) = [assign tg X.env] := by rfl) :
    DS X G L M M' (.Assign [tg] (.Call (.Attribute recv "pop" apos) [] [] cpos) pos) (oPop i f) :=
  ps_imp (ps_asg (pe_bm0 PySem.F.plainAttrs_list PySem.F.slot_list_pop PySem.F.type_list_pop mt_pop hr hbase hline) hg hs hw h1) fun E σ H h => by
    obtain ⟨g, O, env, sr, q⟩ := tS_iff.mp h
    unfold oPop at q
    cases e1 : env[i]? with
    | none => rw [e1] at q; exact q.elim
    | some x =>
      cases x with
      | none => rw [e1] at q; exact q.elim
      | some x =>
        rw [e1] at q
        cases x with
        | list is =>
          obtain ⟨p, ev, op, np, rt⟩ := sr.ow i _ hi e1
          obtain ⟨xs, hp, rx⟩ := rt.list_inv
          simp only at q
          cases h2 : is[is.length - 1]? with
          | none => rw [h2] at q; exact q.elim
          | some d =>
            rw [h2] at q
            simp only at q
            have h2' : is[xs.length - 1]? = some d := by rw [← rx.length]; exact h2
            obtain ⟨v, hv, rv⟩ := rx.get h2'
            refine ⟨_, ev, tyV_list hp, p, xs, v, rfl, rfl, hp, hv, ?_⟩
            obtain ⟨sub, sr'⟩ := sr.write i hi e1 ev (o := .lst xs.dropLast) trivial (.lst upd_same (rx.dropLast.mono (Sub.upd op)))
            refine ⟨_, g, O, _, d, sr', rv.mono sub, ?_⟩
            cases h3 : f d (env.set i (some (.list is.dropLast))) with
            | none => rw [h3] at q; exact q
            | some e => rw [h3] at q; exact fun σ2 H2 O2 _ _ s2 sr2 _ => q σ2 H2 O2 (sub.trans s2) sr2
        | _ => exact q.elim
/-- xs[i] = e, xs an owned list -/
def oPut (i : Nat) (mi m : Env' → Res D) : Env' → Out := fun env => exOut (m env) env fun d => match env[i]? with
  | some (some (.list is)) => exOut (mi env) env fun j => match j with
    | .int j => match ixN is.length j with
      | some n => .nx (env.set i (some (.list (is.set n d))))
      | none => .err
    | _ => .err
  | _ => .err
theorem ds_put {i : Nat} {recv ix val : Expr} {p2 : Pos} {mi : Env' → Res D} (hx : mle M L.Mx = true) (hi : M[i]? = some .ow) (hr : PE X recv (tVar i)) (hix : DE X G M ka ix mi) (hv : DE X G M .pl val m)
    (hg : ∀ to ti, PE X recv to → PE X ix ti → PG X (.Subscript recv ix p2) (gSub to ti rSetL)) (hs : swapsWithSole [.Subscript recv ix p2] val pos.line X.env = pure false := by rfl) (hw : swappedStores [.Subscript recv ix p2] val X.env = pure none := by rfl)
    (h1 : (assignEach [.Subscript recv ix p2] X.env).map (·.2) = [assign (.Subscript recv ix p2) X.env] := by rfl) : DS X G L M M (.Assign [.Subscript recv ix p2] val pos) (oPut i mi m) :=
  ps_imp (ps_asg hv (hg _ _ hr hix.co) hs hw h1) fun E σ H h => by
    obtain ⟨g, O, env, sr, q⟩ := tS_iff.mp h
    refine tE_go sr hx q fun d q H' v s r => ?_
    cases e1 : env[i]? with
    | none => rw [e1] at q; exact q.elim
    | some x =>
      cases x with
      | none => rw [e1] at q; exact q.elim
      | some x =>
        rw [e1] at q
        cases x with
        | list is =>
          obtain ⟨p, ev, op, np, rt⟩ := sr.ow i _ hi e1
          obtain ⟨xs, hp, rx⟩ := rt.list_inv
          refine ⟨_, ev, tE_go (sr.grow s) hx (OutOk.sub (Sub.same s O) q) fun j q H2 w s2 rw2 => ?_⟩
          cases j with
          | int j =>
            simp only at q
            cases rw2.int_inv
            cases h2 : ixN is.length j with
            | none => rw [h2] at q; exact q.elim
            | some n =>
              rw [h2] at q
              have h2' := h2
              rw [rx.length] at h2'
              have ss := s.trans s2
              refine ⟨p, xs, j, n, rfl, rfl, ss _ _ hp, h2', ?_⟩
              obtain ⟨sub, sr'⟩ := (sr.grow ss).write i hi e1 ev (o := .lst (xs.set n v)) trivial (.lst upd_same (((rx.mono (Sub.same ss O)).set (r.mono (Sub.same s2 O)) n).mono (Sub.upd op)))
              exact q σ _ O ((Sub.same s2 O).trans sub) sr'
          | _ => exact q.elim
        | _ => exact q.elim
end
end DL

namespace DL
open PySem PySem.Spec L2
/-! ### what is walked -/
def ItOk (J : It) (ds : List D) (O : AS) (H1 : Hp) : Prop := ∀ (H : Hp) (O' : AS) (i : Nat), Sub H1 O H O' → Trk H O' →
  (i < ds.length → J.go i H ∧ ∀ x H', J.yld i H x H' → Same H H' ∧ ∃ d, ds[i]? = some d ∧ Rp H' O' d x) ∧ (ds.length ≤ i → J.stop i H)
def tI (G : Gd) (M : List Md) (mi : Env' → Res (List D)) : TI := fun σ H R => ∃ (g : Gr G.ex) (O : AS) (env : Env'), SR g.H0 g.O0 M O env σ H ∧ match mi env with
  | .ok ds => ∀ J H1, Same H H1 → ItOk J ds O H1 → R J H1
  | .exc c d => XW G O σ H c d
  | .err => False
def DI (X : Cx) (G : Gd) (M : List Md) (tg iter : Expr) (mi : Env' → Res (List D)) : Prop := PI X tg iter (tI G M mi)
section
variable {X : Cx} {G : Gd} {L : Lp} {M M' Mt : List Md} {k ka kb : Kd} {a b e tg iter : Expr} {m ma mb : Env' → Res D} {ms mi : Env' → Res (List D)} {nc : Env' → Res Bool} {pos : Pos} {st : Stmt} {sts body : List Stmt} {o o1 o2 : Env' → Out} {f : D → Env' → Option Env'} {ws : List Nat}
theorem pi_imp {t t' : TI} (h : PI X tg iter t) (i : ∀ σ H R, t' σ H R → t σ H R) : PI X tg iter t' := ⟨fun pins s σ H R I q => h.run pins s σ H R I (i σ H R q)⟩
theorem PI.or {t t' : TI} (h : PI X tg iter t) (h' : PI X tg iter t') : PI X tg iter (fun σ H R => t σ H R ∨ t' σ H R) := ⟨fun pins s σ H R I q => q.elim (h.run pins s σ H R I) (h'.run pins s σ H R I)⟩
/-- what is walked over data: lists, tuples, texts -/
def walkD : D → Res (List D)
  | .list ds => .ok ds
  | .tuple ds => .ok ds
  | .str x => .ok (x.cps.toList.map fun c => .str ⟨#[c]⟩)
  | _ => .err
def iSeq (m : Env' → Res D) : Env' → Res (List D) := fun env => (m env).bind walkD
theorem itOk_list {K : PySem.W.Frag} {H1 : Hp} {O : AS} {p : Addr} {xs : List V} {ds : List D} (ho : ¬ O p) (e : L2.Rd H1 p (.lst xs)) (r : RpA H1 O ds xs) : ItOk (Itl K p) ds O H1 := fun H O' i s tr => by
  obtain ⟨e', ho'⟩ := s.1 p _ ho e
  have r' := r.mono s
  refine ⟨fun hi => ?_, fun hi => ⟨xs, Rd.seqL e', by rw [← r.length]; exact hi⟩⟩
  obtain ⟨v, hv, rv⟩ := r'.get (List.getElem?_eq_getElem hi)
  refine ⟨⟨xs, v, Rd.seqL e', hv⟩, fun x H' y => ?_⟩
  obtain ⟨rfl, y⟩ := y
  have := y xs (Rd.seqL e')
  rw [hv] at this
  cases this
  exact ⟨Same.refl _, _, List.getElem?_eq_getElem hi, rv⟩
theorem itOk_tup {K : PySem.W.Frag} {H1 : Hp} {O : AS} {p : Addr} {xs : List V} {ds : List D} (ho : ¬ O p) (e : L2.Rd H1 p (.tup xs)) (r : RpA H1 O ds xs) : ItOk (Itt K p) ds O H1 := fun H O' i s tr => by
  obtain ⟨e', ho'⟩ := s.1 p _ ho e
  have r' := r.mono s
  refine ⟨fun hi => ?_, fun hi => ⟨xs, Rd.seqT e', by rw [← r.length]; exact hi⟩⟩
  obtain ⟨v, hv, rv⟩ := r'.get (List.getElem?_eq_getElem hi)
  refine ⟨⟨xs, v, Rd.seqT e', hv⟩, fun x H' y => ?_⟩
  obtain ⟨rfl, y⟩ := y
  have := y xs (Rd.seqT e')
  rw [hv] at this
  cases this
  exact ⟨Same.refl _, _, List.getElem?_eq_getElem hi, rv⟩
theorem itOk_str {H1 : Hp} {O : AS} {x : Str} : ItOk (Its x) (x.cps.toList.map fun c => .str ⟨#[c]⟩) O H1 := fun H O' i s tr => by
  refine ⟨fun hi => ?_, fun hi => by simpa [Its] using hi⟩
  have hi' : i < x.cps.size := by simpa using hi
  refine ⟨hi', fun y H' ⟨e, c, hc, hy⟩ => ?_⟩
  subst e hy
  refine ⟨Same.refl _, .str ⟨#[c]⟩, ?_, .str _⟩
  simp [← hc]
theorem itOk_range {H1 : Hp} {O : AS} {lo : Int} {n : Nat} : ItOk (Itr lo n) ((List.range n).map fun (i : Nat) => PyData.int (lo + i)) O H1 := fun H O' i s tr => by
  refine ⟨fun hi => ?_, fun hi => by simpa [Itr] using hi⟩
  have hi' : i < n := by simpa using hi
  refine ⟨hi', fun y H' ⟨e, hy⟩ => ?_⟩
  subst e hy
  exact ⟨Same.refl _, .int (lo + i), by simp [hi'], .int _⟩
theorem di_seq (he : DE X G M .pl e m) : DI X G M tg e (iSeq m) := pi_imp (PI.or (pi_list he) (PI.or (pi_tup he) (pi_str he))) fun σ H R ⟨g, O, env, sr, q⟩ => by
  have key : ∀ (T : TE → TI) (_ : T = iList X.K ∨ T = iTup X.K ∨ T = iStr), True := fun _ _ => trivial
  unfold iSeq at q
  cases h : m env with
  | err => rw [h] at q; exact q.elim
  | exc c d =>
    rw [h] at q
    refine .inl ⟨g, O, env, sr, ?_⟩
    rw [h]; exact q
  | ok d =>
    rw [h, Res.bind_ok] at q
    cases d <;> simp only [walkD] at q
    case list ds =>
      refine .inl ⟨g, O, env, sr, ?_⟩
      rw [h]
      intro H1 v s r
      have r : Rp H1 O (.list ds) v := r
      cases r with
      | lst h1 h2 h3 => exact ⟨_, rfl, ⟨_, Rd.seqL h2⟩, q _ _ s (itOk_list h1 h2 h3)⟩
    case tuple ds =>
      refine .inr (.inl ⟨g, O, env, sr, ?_⟩)
      rw [h]
      intro H1 v s r
      have r : Rp H1 O (.tuple ds) v := r
      cases r with
      | tup h1 h2 h3 => exact ⟨_, rfl, ⟨_, Rd.seqT h2⟩, q _ _ s (itOk_tup h1 h2 h3)⟩
    case str x =>
      refine .inr (.inr ⟨g, O, env, sr, ?_⟩)
      rw [h]
      intro H1 v s r
      have r : Rp H1 O (.str x) v := r
      cases r
      exact ⟨_, rfl, q _ _ s itOk_str⟩
def small62 (i : Int) : Prop := -(2 ^ 62) ≤ i ∧ i < 2 ^ 62
instance (i : Int) : Decidable (small62 i) := by unfold small62; exact inferInstance
def rng (lo : Int) (n : Nat) : List D := (List.range n).map fun (i : Nat) => PyData.int (lo + i)
def rangeD : List D → Res (List D)
  | [.int j] => if small62 j then .ok (rng 0 j.toNat) else .err
  | [.int i, .int j] => if small62 i ∧ small62 j then .ok (rng i (j - i).toNat) else .err
  | _ => .err
def iRange (ms : Env' → Res (List D)) : Env' → Res (List D) := fun env => (ms env).bind rangeD
theorem di_range1 {p : Pos} (hg : Gl X "range") (hm : X.mg "range" = none) (ha : DE X G M k a m) (hs : starEach [a] X.env = [(false, eval a X.env)] := by rfl) : DI X G M tg (.Call (.Name "range" p) [a] [] pos) (iRange (aCons m aNil)) :=
  pi_imp (pi_range1 hg hm (da_consC (G := G) (M := M) ha da_nil hs) hs) fun σ H R ⟨g, O, env, sr, q⟩ => by
    refine ⟨g, O, env, sr, ?_⟩
    unfold iRange at q
    cases h : aCons m aNil env with
    | err => rw [h] at q; exact q
    | exc c d => rw [h] at q; exact q
    | ok ds =>
      rw [h, Res.bind_ok] at q
      have hl : ∃ d, ds = [d] := by
        unfold aCons aNil at h
        cases h2 : m env with
        | ok d => rw [h2] at h; cases h; exact ⟨d, rfl⟩
        | exc c d => rw [h2] at h; cases h
        | err => rw [h2] at h; cases h
      obtain ⟨d, rfl⟩ := hl
      intro H1 vs s r
      obtain ⟨v, rfl, r1⟩ := RcA.one r
      cases d <;> simp only [rangeD] at q
      case int j =>
        cases r1.int_inv
        by_cases hj : small62 j
        · rw [if_pos hj] at q
          exact ⟨j, rfl, hj.1, hj.2, q _ _ s (by have := @itOk_range H1 O 0 j.toNat; exact this)⟩
        · rw [if_neg hj] at q; exact q.elim
      all_goals exact q.elim
theorem di_range2 {p : Pos} (hg : Gl X "range") (hm : X.mg "range" = none) (ha : DE X G M ka a ma) (hb : DE X G M kb b mb) (hs : starEach [a, b] X.env = [(false, eval a X.env), (false, eval b X.env)] := by rfl) (hs2 : starEach [b] X.env = [(false, eval b X.env)] := by rfl) : DI X G M tg (.Call (.Name "range" p) [a, b] [] pos) (iRange (aCons ma (aCons mb aNil))) :=
  pi_imp (pi_range2 hg hm (da_consC (G := G) (M := M) ha (da_consC hb da_nil hs2) (by rw [hs, hs2])) hs hs2) fun σ H R ⟨g, O, env, sr, q⟩ => by
    refine ⟨g, O, env, sr, ?_⟩
    unfold iRange at q
    cases h : aCons ma (aCons mb aNil) env with
    | err => rw [h] at q; exact q
    | exc c d => rw [h] at q; exact q
    | ok ds =>
      rw [h, Res.bind_ok] at q
      have hl : ∃ d d2, ds = [d, d2] := by
        unfold aCons aNil at h
        cases h2 : ma env with
        | ok d =>
          cases h3 : mb env with
          | ok d2 => rw [h2, h3] at h; cases h; exact ⟨d, d2, rfl⟩
          | exc c d => rw [h2, h3] at h; cases h
          | err => rw [h2, h3] at h; cases h
        | exc c d => rw [h2] at h; cases h
        | err => rw [h2] at h; cases h
      obtain ⟨d, d2, rfl⟩ := hl
      intro H1 vs s r
      obtain ⟨v, w, rfl, r1, r2⟩ := RcA.two r
      cases d <;> try exact q.elim
      cases d2 <;> try exact q.elim
      case int.int i j =>
        cases r1.int_inv; cases r2.int_inv
        simp only [rangeD] at q
        by_cases hj : small62 i ∧ small62 j
        · rw [if_pos hj] at q
          exact ⟨i, j, rfl, ⟨hj.1.1, hj.1.2, hj.2.1, hj.2.2⟩, q _ _ s itOk_range⟩
        · rw [if_neg hj] at q; exact q.elim

/-! ### for -/
def loop (f : D → Env' → Option Env') (body : Env' → Out) : List D → Env' → Out
  | [], env => .nx env
  | d :: ds, env => match f d env with
    | none => .err
    | some e1 => match body e1 with
      | .nx e2 => loop f body ds e2
      | .ct e2 => loop f body ds e2
      | .bk e2 => .nx e2
      | x => x
def oFor (mi : Env' → Res (List D)) (f : D → Env' → Option Env') (body : Env' → Out) : Env' → Out := fun env => exOut (mi env) env fun ds => loop f body ds env
theorem ds_for (hx : mle M L.Mx = true) (hp : PassesOwn (model X.prog X.w) X.A X.env X.xe) (hc : X.calm = true) (hi : DI X G M tg iter mi) (hg : DG X M Mt ws tg f) (hb : DSs X G { L with Mb := M } Mt M body o) (hs : ∀ x, foldedSetIterable iter X.env x = pure x := by intro _; rfl) :
    DS X G L M M (.For tg iter body [] pos) (oFor mi f o) := ps_imp (ps_for hp hc hi hg hb hs) fun E σ H h => by
  obtain ⟨g, O, env, sr, q⟩ := tS_iff.mp h
  refine ⟨g, O, env, sr, ?_⟩
  unfold oFor at q
  cases h : mi env with
  | err => rw [h] at q; exact q
  | exc c d =>
    rw [h] at q
    exact fun H' dd cls va s h1 h2 h3 => q σ H' O dd cls va (Sub.same s O) ((sr.grow s).weak hx) h1 h2 h3
  | ok ds =>
    rw [h, exOut_ok] at q
    intro J H1 s it
    refine ⟨fun i n σ' H' => n = ds.length - i ∧ i ≤ ds.length ∧ ∃ O' env', Sub H1 O H' O' ∧ SR g.H0 g.O0 M O' env' σ' H' ∧ OutOk G L M g O' H' E (loop f o (ds.drop i) env'),
      ⟨_, rfl, Nat.zero_le _, O, env, Sub.refl _ _, sr.grow s, OutOk.sub (Sub.same s O) q⟩, ?_⟩
    rintro i n σ2 H2 ⟨rfl, hi, O2, env2, sub2, sr2, q2⟩
    obtain ⟨go, stop⟩ := it H2 O2 i sub2 sr2.tr
    by_cases hlt : i < ds.length
    · obtain ⟨go, yld⟩ := go hlt
      refine .inr ⟨go, fun σ' H' => ∃ O' env', Sub H1 O H' O' ∧ SR g.H0 g.O0 M O' env' σ' H' ∧ OutOk G L M g O' H' E (loop f o (ds.drop (i + 1)) env'),
        fun σ' H' z => ⟨ds.length - (i + 1), by omega, rfl, hlt, z⟩, fun x H3 y => ?_⟩
      obtain ⟨s3, d, hd, rd⟩ := yld x H3 y
      refine ⟨_, g, O2, env2, d, sr2.grow s3, rd, ?_⟩
      rw [List.drop_eq_getElem_cons hlt] at q2
      have hd' : ds[i] = d := by
        rw [List.getElem?_eq_getElem hlt] at hd
        exact Option.some.inj hd
      rw [hd'] at q2
      unfold loop at q2
      cases hf : f d env2 with
      | none => rw [hf] at q2; exact q2
      | some e1 =>
        rw [hf] at q2
        simp only at q2 ⊢
        intro σ4 H4 O4 _ _ s4 sr4 _
        have sub4 : Sub H1 O H4 O4 := (sub2.trans (Sub.same s3 O2)).trans s4
        refine tS_iff.mpr ⟨g, O4, e1, sr4, ?_⟩
        have q3 := OutOk.sub ((Sub.same s3 O2).trans s4) q2
        cases ho : o e1 with
        | nx e2 =>
          rw [ho] at q3
          exact fun σ5 H5 O5 s5 sr5 => ⟨O5, e2, sub4.trans s5, sr5, OutOk.sub s5 q3⟩
        | ct e2 =>
          rw [ho] at q3
          exact fun σ5 H5 O5 s5 sr5 => ⟨O5, e2, sub4.trans s5, sr5, OutOk.sub s5 q3⟩
        | bk e2 =>
          rw [ho] at q3
          exact fun σ5 H5 O5 s5 sr5 => q3 σ5 H5 O5 s5 sr5
        | rt d => rw [ho] at q3; exact q3
        | exc c d e => rw [ho] at q3; exact q3
        | err => rw [ho] at q3; exact q3
    · have hl : i = ds.length := by omega
      subst hl
      refine .inl ⟨stop (Nat.le_refl _), ?_⟩
      rw [List.drop_length] at q2
      exact q2 σ2 H2 O2 (Sub.refl _ _) sr2

/-! ### while -/
def wloop (nc : Env' → Res Bool) (body : Env' → Out) : Nat → Env' → Out
  | 0, _ => .err
  | n + 1, env => exOut (nc env) env fun b => if b = true then
      match body env with
      | .nx e => wloop nc body n e
      | .ct e => wloop nc body n e
      | .bk e => .nx e
      | x => x
    else .nx env
theorem ds_while {c : Expr} (n : Nat) (hx : mle M L.Mx = true) (hp : PassesOwn (model X.prog X.w) X.A X.env X.xe) (hc : DT X G M c nc) (hb : DSs X G { L with Mb := M } M M body o) : DS X G L M M (.While c body [] pos) (wloop nc o n) := ps_imp (ps_while hp hc hb) fun E σ H h => by
  obtain ⟨g, O, env, sr, q⟩ := tS_iff.mp h
  refine ⟨fun m σ' H' => ∃ O' env', SR g.H0 g.O0 M O' env' σ' H' ∧ OutOk G L M g O' H' E (wloop nc o m env'), ⟨n, O, env, sr, q⟩, ?_⟩
  rintro m σ2 H2 ⟨O2, env2, sr2, q2⟩
  cases m with
  | zero => exact q2.elim
  | succ m =>
    unfold wloop at q2
    refine tT_go sr2 hx q2 fun b q2 H3 s => ?_
    cases b with
    | false =>
      rw [if_neg Bool.false_ne_true] at q2 ⊢
      exact q2 σ2 H3 O2 (Sub.same s O2) (sr2.grow s)
    | true =>
      rw [if_pos rfl] at q2 ⊢
      refine ⟨fun σ' H' => ∃ O' env', SR g.H0 g.O0 M O' env' σ' H' ∧ OutOk G L M g O' H' E (wloop nc o m env'), fun σ' H' z => ⟨m, Nat.lt_succ_self _, z⟩, tS_iff.mpr ⟨g, O2, env2, sr2.grow s, ?_⟩⟩
      have q3 := OutOk.sub (Sub.same s O2) q2
      cases ho : o env2 with
      | nx e2 => rw [ho] at q3; exact fun σ5 H5 O5 s5 sr5 => ⟨O5, e2, sr5, OutOk.sub s5 q3⟩
      | ct e2 => rw [ho] at q3; exact fun σ5 H5 O5 s5 sr5 => ⟨O5, e2, sr5, OutOk.sub s5 q3⟩
      | bk e2 => rw [ho] at q3; exact fun σ5 H5 O5 s5 sr5 => q3 σ5 H5 O5 s5 sr5
      | rt d => rw [ho] at q3; exact q3
      | exc c d e => rw [ho] at q3; exact q3
      | err => rw [ho] at q3; exact q3

/-! ### calls of defs -/
def spD (kr : Kd) (mg : Str → Option Value) (np : Nat) (mf : List D → Res D) : Sp := fun vs H Q E => vs.length = np ∧ ∃ (O : AS) (ds : List D), Trk H O ∧ RpA H O ds vs ∧ match mf ds with
  | .ok d => ∀ H' v, Same H H' → RK kr H O H' d v → Q v H'
  | .exc c d => ∀ H' dd cls va, Same H H' → mg c = some cls → H' dd = some (.xd [(("at" : Str), va)]) → Rp H' O d va → E cls (some dd) H'
  | .err => False
def mCall (mf : List D → Res D) (ms : Env' → Res (List D)) : Env' → Res D := fun env => (ms env).bind mf
theorem aLen_cons {env : Env'} {ds : List D} (h : aCons m ms env = .ok ds) : ∃ d r, ds = d :: r ∧ ms env = .ok r := by
  unfold aCons at h
  cases h1 : m env with
  | ok d =>
    cases h2 : ms env with
    | ok r => rw [h1, h2] at h; cases h; exact ⟨d, r, rfl, rfl⟩
    | exc c d => rw [h1, h2] at h; cases h
    | err => rw [h1, h2] at h; cases h
  | exc c d => rw [h1] at h; cases h
  | err => rw [h1] at h; cases h
theorem de_call {kr : Kd} {lv : Nat} {fa : Addr} {fd : FuncData} {ps : List Str} {np : Nat} {mf : List D → Res D} {x : Str} {p : Pos} {es : List Expr} (F : FnOk X.prog X.w X.K X.mg X.base (L2.CX X.prog X.w) lv fa fd ps (spD kr G.mg np mf)) (hr : Room lv X.A) (hg : Gl X x) (hm : X.mg x = some (.ref fa)) (hk : PySem.W.keepIn X.K (.ref fa) = true) (hb : Binds X.K fd ps [])
    (tk : Takes X G.W) (ha : DA X G M .pl (e :: es) ms) (hl : ∀ env ds, ms env = .ok ds → ds.length = np) (hdb : (x == ("__debug__" : Str)) = false := by decide) (he : starEach (e :: es) X.env = (false, eval e X.env) :: starEach es X.env := by rfl) (hpl : (backTo pos (starEach es X.env)).any (·.1) = false := by rfl) :
    DE X G M kr (.Call (.Name x p) (e :: es) [] pos) (mCall mf ms) := pe_imp (pe_callS F hr hg hm hk hb (fun σ => passAt tk σ) ha hdb he hpl) fun σ H Q ⟨g, O, env, sr, q⟩ => by
  refine ⟨g, O, env, sr, ?_⟩
  unfold mCall at q
  cases h : ms env with
  | err => rw [h] at q; exact q
  | exc c d => rw [h] at q; exact q
  | ok ds =>
    rw [h, Res.bind_ok] at q
    intro H1 vs s r
    have r : RpA H1 O ds vs := r
    refine ⟨by rw [← r.length]; exact hl env ds h, O, ds, Trk.grow sr.tr s, r, ?_⟩
    cases h2 : mf ds with
    | err => rw [h2] at q; exact q
    | exc c d =>
      rw [h2] at q
      exact fun H' dd cls va s' h1 h2 h3 => q H' dd cls va (s.trans s') h1 h2 h3
    | ok d =>
      rw [h2] at q
      exact fun H' v s' r' => q H' v (s.trans s') (RK.back s r')
end
end DL

namespace DL
open PySem PySem.Spec L2
/-! ### a def by its body -/
def runD (kr : Kd) (n : Nat) (o : Env' → Out) (ds : List D) : Res D := match o (ds.map some ++ List.replicate (n - ds.length) none) with
  | .nx _ => match kr with
    | .pl => .ok .none
    | _ => .err
  | .rt d => .ok d
  | .exc c d _ => .exc c d
  | _ => .err
def wE (E : XK) : WX := fun cls d _ H => E cls d H
section
variable {P : Program} {w : World} {K : PySem.W.Frag} {mg : Str → Option Value} {base : Heap}
theorem tkX {N : List Str} {qual : Str} {sc : Scope} {f : Addr} {cdv : Value} {A : Around} {outer : List Env} {s : Shared} {H : Hp} {E : XK} : Takes (cxOf (L2.CX P w) P w K mg base N qual sc f cdv A outer s H E) (wE E) := takes_of rfl rfl rfl rfl
theorem poX {N : List Str} {qual : Str} {sc : Scope} {f : Addr} {cdv : Value} {A : Around} {outer : List Env} {s : Shared} {H : Hp} {E : XK} : PassesOwn (model P w) (cxOf (L2.CX P w) P w K mg base N qual sc f cdv A outer s H E).A (cxOf (L2.CX P w) P w K mg base N qual sc f cdv A outer s H E).env (cxOf (L2.CX P w) P w K mg base N qual sc f cdv A outer s H E).xe := passes_of rfl
def mode0 (n np : Nat) : List Md := List.replicate np .fz ++ List.replicate (n - np) .un
theorem start_ok {N : List Str} {np : Nat} {kr : Kd} {M1 : List Md} {o : Env' → Out} {vs : List V} {H : Hp} {Q : VK} {E : XK} {O : AS} {ds : List D} (hl : vs.length = np) (tr : Trk H O) (r : RpA H O ds vs) (q : match runD kr N.length o ds with
  | .ok d => ∀ H' v, Same H H' → RK kr H O H' d v → Q v H'
  | .exc c d => ∀ H' dd cls va, Same H H' → mg c = some cls → H' dd = some (.xd [(("at" : Str), va)]) → Rp H' O d va → E cls (some dd) H'
  | .err => False) : tS ⟨wE E, mg, none⟩ ⟨[], [], kr⟩ (mode0 N.length np) M1 o { nx := fun _ H' => Q .non H', rt := Q } (L2.start N vs) H := by
  have hld : ds.length = np := by rw [r.length]; exact hl
  refine tS_iff.mpr ⟨⟨H, O, fun _ h => nomatch h⟩, O, ds.map some ++ List.replicate (N.length - ds.length) none, ⟨Same.refl H, fun _ h => h, tr, fun _ h => .inl h, ?_, ?_, ?_, ?_, ?_⟩, ?_⟩
  · unfold L2.start
    simp [hld, hl]
  · intro i d hm he
    by_cases hi : i < ds.length
    · rw [List.getElem?_append_left (by simpa using hi)] at he
      rw [List.getElem?_map] at he
      cases hd : ds[i]? with
      | none => rw [hd] at he; cases he
      | some d' =>
        rw [hd] at he
        cases he
        obtain ⟨v, hv, rv⟩ := r.get hd
        refine ⟨v, ?_, rv⟩
        unfold L2.start
        rw [List.getElem?_append_left (by simpa [← r.length] using hi), List.getElem?_map, hv]
        rfl
    · rw [List.getElem?_append_right (by simpa using hi)] at he
      obtain ⟨_, e⟩ := List.getElem?_eq_some_iff.mp he
      rw [List.getElem_replicate] at e
      cases e
  · intro i d hm he
    unfold mode0 at hm
    by_cases hi : i < np
    · rw [List.getElem?_append_left (by simpa using hi)] at hm
      obtain ⟨_, e⟩ := List.getElem?_eq_some_iff.mp hm
      rw [List.getElem_replicate] at e
      cases e
    · rw [List.getElem?_append_right (by simpa using hi)] at hm
      obtain ⟨_, e⟩ := List.getElem?_eq_some_iff.mp hm
      rw [List.getElem_replicate] at e
      cases e
  · intro i j d e a hm
    unfold mode0 at hm
    by_cases hi : i < np
    · rw [List.getElem?_append_left (by simpa using hi)] at hm
      obtain ⟨_, e⟩ := List.getElem?_eq_some_iff.mp hm
      rw [List.getElem_replicate] at e
      cases e
    · rw [List.getElem?_append_right (by simpa using hi)] at hm
      obtain ⟨_, e⟩ := List.getElem?_eq_some_iff.mp hm
      rw [List.getElem_replicate] at e
      cases e
  · intro i a hm
    unfold mode0 at hm
    by_cases hi : i < np
    · rw [List.getElem?_append_left (by simpa using hi)] at hm
      obtain ⟨_, e⟩ := List.getElem?_eq_some_iff.mp hm
      rw [List.getElem_replicate] at e
      cases e
    · rw [List.getElem?_append_right (by simpa using hi)] at hm
      obtain ⟨_, e⟩ := List.getElem?_eq_some_iff.mp hm
      rw [List.getElem_replicate] at e
      cases e
  · unfold runD at q
    cases ho : o (ds.map some ++ List.replicate (N.length - ds.length) none) with
    | nx e =>
      rw [ho] at q
      cases kr with
      | pl => exact fun σ' H' O' s sr => q H' _ sr.same .non
      | co => exact q.elim
      | fr => exact q.elim
    | rt d => rw [ho] at q; exact q
    | exc c d e =>
      rw [ho] at q
      exact fun σ' H' O' dd cls va s sr h1 h2 h3 => q H' dd cls va sr.same h1 h2 (h3.mono (Sub.less sr.sub0))
    | bk e => rw [ho] at q; exact q.elim
    | ct e => rw [ho] at q; exact q.elim
    | err => rw [ho] at q; exact q.elim
theorem Fun.okD {x qual : Str} {st : Stmt} {f : Addr} {fd : FuncData} {N ps : List Str} {k : Nat} {kr : Kd} {M1 : List Md} {o : Env' → Out} (F : Fun K x qual st f fd) (S : FnScope N ps (defScope st)) (hN : ps.length ≤ N.length)
    (hbody : ∀ (cdv : Value) (A : Around) (outer : List Env) (s : Shared) (H : Hp) (E : XK), Room k (A.deeper (PyProof.Rows.envOfC qual (defScope st) s.heap.objs.size f cdv)) →
      DSs (cxOf (L2.CX P w) P w K mg base N qual (defScope st) f cdv A outer s H E) ⟨wE E, mg, none⟩ ⟨[], [], kr⟩ (mode0 N.length ps.length) M1 (defBody st) o) :
    FnOk P w K mg base (L2.CX P w) (k + 1) f fd ps (spD kr mg ps.length (runD kr N.length o)) := by
  refine F.okX S (fun vs H Q E h => h.1) fun cdv A outer s H vs Q E hr h => ?_
  refine ⟨_, hbody cdv A outer s H E hr, ?_⟩
  obtain ⟨hl, O, ds, tr, r, q⟩ := h
  exact start_ok hl tr r q
end
end DL

namespace DL
open PySem PySem.Spec L2
/-! ### list comprehensions -/
def wipeE : Env' → List Nat → Env'
  | env, [] => env
  | env, v :: vs => (wipeE env vs).set v none
def wipeM : List Md → List Nat → List Md
  | M, [] => M
  | M, v :: vs => (wipeM M vs).set v .un
theorem wipeE_get {i : Nat} {d : D} : ∀ {env : Env'} {vs : List Nat}, (wipeE env vs)[i]? = some (some d) → env[i]? = some (some d) ∧ i ∉ vs
  | env, [], h => ⟨h, by simp⟩
  | env, v :: vs, h => by
    unfold wipeE at h
    by_cases hi : v = i
    · subst hi
      obtain ⟨hlt, _⟩ := List.getElem?_eq_some_iff.mp h
      rw [List.getElem?_set_self (by simpa using hlt)] at h; cases h
    · rw [List.getElem?_set_ne hi] at h
      obtain ⟨h1, h2⟩ := wipeE_get h
      exact ⟨h1, by simp only [List.mem_cons, not_or]; exact ⟨fun e => hi e.symm, h2⟩⟩
theorem wipeM_get {i : Nat} {md : Md} (hu : md ≠ .un) : ∀ {M : List Md} {vs : List Nat}, (wipeM M vs)[i]? = some md → M[i]? = some md
  | M, [], h => h
  | M, v :: vs, h => by
    unfold wipeM at h
    by_cases hi : v = i
    · subst hi
      obtain ⟨hlt, _⟩ := List.getElem?_eq_some_iff.mp h
      rw [List.getElem?_set_self (by simpa using hlt)] at h
      cases h
      exact absurd rfl hu
    · rw [List.getElem?_set_ne hi] at h
      exact wipeM_get hu h
theorem wipeM_un {i : Nat} {md : Md} : ∀ {M : List Md} {vs : List Nat}, i ∈ vs → md ≠ .un → ¬ (wipeM M vs)[i]? = some md
  | M, [], h, _, _ => nomatch h
  | M, v :: vs, h, hu, e => by
    unfold wipeM at e
    by_cases hi : v = i
    · subst hi
      obtain ⟨hlt, _⟩ := List.getElem?_eq_some_iff.mp e
      rw [List.getElem?_set_self (by simpa using hlt)] at e
      cases e
      exact hu rfl
    · rw [List.getElem?_set_ne hi] at e
      rcases List.mem_cons.mp h with z | z
      · exact hi z.symm
      · exact wipeM_un z hu e
theorem wipeE_length : ∀ (env : Env') (vs : List Nat), (wipeE env vs).length = env.length
  | env, [] => rfl
  | env, v :: vs => by unfold wipeE; rw [List.length_set, wipeE_length env vs]
theorem wipe_keep {σ : L2.St} {i : Nat} : ∀ {vs : List Nat}, i ∉ vs → (wipe σ vs)[i]? = σ[i]?
  | [], _ => rfl
  | v :: vs, h => by
    unfold wipe
    simp only [List.mem_cons, not_or] at h
    rw [List.getElem?_set_ne (fun e => h.1 e.symm)]
    exact wipe_keep h.2
theorem wipe_only {vs ws : List Nat} {σ σ' : L2.St} (h : Only' ws σ σ') (hs : ∀ i ∈ ws, i ∈ vs) : wipe σ' vs = wipe σ vs := by
  apply List.ext_getElem?
  intro i
  by_cases hi : i ∈ vs
  · have key : ∀ (τ : L2.St), τ.length = σ.length → (wipe τ vs)[i]? = if i < σ.length then some none else none := by
      intro τ hτ
      rw [← hτ]
      clear h hs hτ
      induction vs with
      | nil => cases hi
      | cons v vs ih =>
        unfold wipe
        by_cases e : v = i
        · subst e
          by_cases hl : v < τ.length
          · rw [if_pos hl, List.getElem?_set_self (by rw [wipe_length]; exact hl)]
          · rw [if_neg hl, List.getElem?_eq_none (by rw [List.length_set, wipe_length]; omega)]
        · rw [List.getElem?_set_ne e]
          rcases List.mem_cons.mp hi with z | z
          · exact absurd z.symm e
          · exact ih z
    rw [key σ' h.1, key σ rfl]
  · rw [wipe_keep hi, wipe_keep hi]
    exact h.2 i fun z => hi (hs i z)
theorem wipe_idem {vs : List Nat} {σ : L2.St} : wipe (wipe σ vs) vs = wipe σ vs := by
  refine wipe_only (ws := vs) ⟨wipe_length _ _, fun i hi => wipe_keep hi⟩ fun _ h => h
/-- the frame's state within a block, the new list at p -/
theorem SR.blk {H0 H H' : Hp} {O0 O : AS} {M : List Md} {env : Env'} {σ : L2.St} {p : Addr} {xs : List V} (vs : List Nat) (r : SR H0 O0 M O env σ H) (s : Same H H') (hp : H p = none) (hp' : H' p = some (.lst xs)) :
    SR H0 O0 (wipeM M vs) (fun b => O b ∨ b = p) (wipeE env vs) (wipe σ vs) H' where
  same := r.same.trans s
  sub0 := fun a h => .inl (r.sub0 a h)
  tr := fun a h => by
    rcases h with h | rfl
    · exact Trk.grow r.tr s a h
    · exact ⟨_, hp', trivial⟩
  new := fun a h => by
    rcases h with h | rfl
    · exact r.new a h
    · exact .inr (r.same.free hp)
  len := by rw [wipeE_length, wipe_length]; exact r.len
  fz := fun i d hm he => by
    obtain ⟨he', hi⟩ := wipeE_get he
    obtain ⟨v, ev, q⟩ := r.fz i d (wipeM_get (by simp) hm) he'
    exact ⟨v, by rw [wipe_keep hi]; exact ev, q.mono ((Sub.more hp).trans (Sub.same s _))⟩
  ow := fun i d hm he => by
    obtain ⟨he', hi⟩ := wipeE_get he
    obtain ⟨a, ev, oa, na, q⟩ := r.ow i d (wipeM_get (by simp) hm) he'
    exact ⟨a, by rw [wipe_keep hi]; exact ev, .inl oa, na, q.same s ((Sub.more hp).trans (Sub.same s _))⟩
  dist := fun i j d e a h1 h2 h3 h4 h5 h6 => by
    obtain ⟨h3', hi⟩ := wipeE_get h3
    obtain ⟨h4', hj⟩ := wipeE_get h4
    rw [wipe_keep hi] at h5
    rw [wipe_keep hj] at h6
    exact r.dist i j d e a (wipeM_get (by simp) h1) (wipeM_get (by simp) h2) h3' h4' h5 h6
  exs := fun i a hm => by
    have hi : i ∉ vs := fun z => wipeM_un z (by simp) hm
    rw [wipe_keep hi]
    exact r.exs i a (wipeM_get (by simp) hm)
def noX {α : Type} : Res α → Res α
  | .ok a => .ok a
  | _ => .err
/-- walked while all that is tracked stands -/
def ItOkS (J : It) (ds : List D) (O : AS) (H1 : Hp) : Prop := ∀ (H : Hp) (O' : AS) (i : Nat), Same H1 H → Sub H1 O H O' → Trk H O' →
  (i < ds.length → J.go i H ∧ ∀ x H', J.yld i H x H' → Same H H' ∧ ∃ d, ds[i]? = some d ∧ Rp H' O' d x) ∧ (ds.length ≤ i → J.stop i H)
def tIS (G : Gd) (M : List Md) (mi : Env' → Res (List D)) : TI := fun σ H R => ∃ (g : Gr G.ex) (O : AS) (env : Env'), SR g.H0 g.O0 M O env σ H ∧ match mi env with
  | .ok ds => ∀ J H1, Same H H1 → ItOkS J ds O H1 → R J H1
  | .exc c d => XW G O σ H c d
  | .err => False
def DIS (X : Cx) (G : Gd) (M : List Md) (tg iter : Expr) (mi : Env' → Res (List D)) : Prop := PI X tg iter (tIS G M mi)
theorem DIS.of {X : Cx} {G : Gd} {M : List Md} {tg iter : Expr} {mi : Env' → Res (List D)} (h : DI X G M tg iter mi) : DIS X G M tg iter mi := pi_imp h fun σ H R ⟨g, O, env, sr, q⟩ => by
  refine ⟨g, O, env, sr, ?_⟩
  cases h : mi env with
  | err => rw [h] at q; exact q
  | exc c d => rw [h] at q; exact q
  | ok ds => rw [h] at q; exact fun J H1 s it => q J H1 s fun H O' i _ => it H O' i
theorem itOkS_list {K : PySem.W.Frag} {H1 : Hp} {O : AS} {p : Addr} {xs : List V} {ds : List D} (e : L2.Rd H1 p (.lst xs)) (r : RpA H1 O ds xs) : ItOkS (Itl K p) ds O H1 := fun H O' i sm s tr => by
  have e' := rd_same sm e
  have r' := r.mono s
  refine ⟨fun hi => ?_, fun hi => ⟨xs, Rd.seqL e', by rw [← r.length]; exact hi⟩⟩
  obtain ⟨v, hv, rv⟩ := r'.get (List.getElem?_eq_getElem hi)
  refine ⟨⟨xs, v, Rd.seqL e', hv⟩, fun x H' y => ?_⟩
  obtain ⟨rfl, y⟩ := y
  have := y xs (Rd.seqL e')
  rw [hv] at this
  cases this
  exact ⟨Same.refl _, _, List.getElem?_eq_getElem hi, rv⟩
/-- an owned list -/
def iOwn (m : Env' → Res D) : Env' → Res (List D) := fun env => (m env).bind fun d => match d with
  | .list ds => .ok ds
  | _ => .err
theorem dis_own {X : Cx} {G : Gd} {M : List Md} {k : Kd} {tg e : Expr} {m : Env' → Res D} (he : DE X G M k e m) : DIS X G M tg e (iOwn m) := pi_imp (pi_list he.co) fun σ H R ⟨g, O, env, sr, q⟩ => by
  refine ⟨g, O, env, sr, ?_⟩
  unfold iOwn at q
  cases h : m env with
  | err => rw [h] at q; exact q
  | exc c d => rw [h] at q; exact q
  | ok d =>
    rw [h, Res.bind_ok] at q
    intro H1 v s r
    cases d <;> simp only at q
    case list ds =>
      obtain ⟨p, xs, rfl, e1, r1⟩ := Rc.list_inv r
      exact ⟨p, rfl, ⟨xs, Rd.seqL e1⟩, q _ _ s (itOkS_list e1 r1)⟩
    all_goals exact q.elim
/-- the items of the new list -/
def lcG (f : D → Env' → Option Env') (nc : Env' → Res Bool) (m : Env' → Res D) : List D → Env' → Res (List D)
  | [], _ => .ok []
  | d :: ds, env => match f d env with
    | none => .err
    | some e1 => (noX (nc e1)).bind fun b => if b = true then (noX (m e1)).bind fun y => (lcG f nc m ds env).bind fun ys => .ok (y :: ys) else lcG f nc m ds env
def mLc (mi : Env' → Res (List D)) (f : D → Env' → Option Env') (nc : Env' → Res Bool) (m : Env' → Res D) (vs : List Nat) : Env' → Res D := fun env => (mi env).bind fun ds => (noX (lcG f nc m ds (wipeE env vs))).bind fun ys => if ys.length ≤ sizeLine then .ok (.list ys) else .err
/-- a clause's tests -/
def DTs (X : Cx) (G : Gd) (M : List Md) (es : List Expr) (m : Env' → Res Bool) : Prop := PTs X es (tT G M m)
theorem pts_imp {X : Cx} {e : List Expr} {t t' : TT} (h : PTs X e t) (i : ∀ σ H Q, t' σ H Q → t σ H Q) : PTs X e t' := ⟨fun pins s σ H Q I q => h.run pins s σ H Q I (i σ H Q q)⟩
def bYes : Env' → Res Bool := fun _ => .ok true
theorem dts_nil {X : Cx} {G : Gd} {M : List Md} : DTs X G M [] bYes := pts_imp pts_nil fun σ H Q ⟨g, O, env, sr, q⟩ => q H (Same.refl H)
theorem dts_one {X : Cx} {G : Gd} {M : List Md} {c : Expr} {nc : Env' → Res Bool} (h : DT X G M c nc) : DTs X G M [c] nc := pts_one h
/-- nothing is raised in a block -/
def Gd.blk (G : Gd) : Gd := ⟨fun _ _ _ _ => False, G.mg, G.ex⟩
section
variable {X : Cx} {G : Gd} {L : Lp} {M M' Mt : List Md} {k : Kd} {ws vs : List Nat} {mi : Env' → Res (List D)} {f : D → Env' → Option Env'} {nc : Env' → Res Bool} {m : Env' → Res D}
theorem tLc_ok (hws : ∀ i ∈ ws, i ∈ vs) (σ : L2.St) (H : Hp) (Q : VK) (h : tE G M .fr (mLc mi f nc m vs) σ H Q) : tLc (tIS G M mi) (tG (wipeM M vs) Mt ws f) (tT G.blk Mt nc) (tE G.blk Mt .pl m) vs σ H Q := by
  obtain ⟨g, O, env, sr, q⟩ := h
  refine ⟨g, O, env, sr, ?_⟩
  unfold mLc at q
  cases h : mi env with
  | err => rw [h] at q; exact q
  | exc c d => rw [h] at q; exact q
  | ok ds =>
    rw [h, Res.bind_ok] at q
    intro J H1 s1 it D hD
    cases h2 : lcG f nc m ds (wipeE env vs) with
    | err => rw [h2] at q; exact q.elim
    | exc c d => rw [h2] at q; exact q.elim
    | ok ys =>
      rw [h2] at q
      simp only [noX, Res.bind_ok] at q
      by_cases hz : ys.length ≤ sizeLine
      · rw [if_pos hz] at q
        refine ⟨fun i n H' => n = ds.length - i ∧ i ≤ ds.length ∧ Same H1 H' ∧ ∃ acc da rest, H' D = some (.lst acc) ∧ RpA H' (fun b => O b ∨ b = D) da acc ∧ lcG f nc m (ds.drop i) (wipeE env vs) = .ok rest ∧ da ++ rest = ys,
          ⟨_, rfl, Nat.zero_le _, same_new hD, [], [], ys, upd_same, .nil, h2, rfl⟩, ?_⟩
        rintro i n H2 ⟨rfl, hi, s2, acc, da, rest, hacc, ra, hr, hy⟩
        have sub2 : Sub H1 O H2 (fun b => O b ∨ b = D) := (Sub.more hD).trans (Sub.same s2 _)
        have srb := (sr.grow s1).blk vs s2 hD hacc
        obtain ⟨go, stop⟩ := it H2 _ i s2 sub2 srb.tr
        by_cases hlt : i < ds.length
        · obtain ⟨go, yld⟩ := go hlt
          refine .inr ⟨go, fun H' => Same H1 H' ∧ ∃ acc da rest, H' D = some (.lst acc) ∧ RpA H' (fun b => O b ∨ b = D) da acc ∧ lcG f nc m (ds.drop (i + 1)) (wipeE env vs) = .ok rest ∧ da ++ rest = ys,
            fun H' z => ⟨ds.length - (i + 1), by omega, rfl, hlt, z⟩, fun x H3 y => ?_⟩
          obtain ⟨s3, d, hd, rd⟩ := yld x H3 y
          refine ⟨_, g, _, wipeE env vs, d, srb.grow s3, rd, ?_⟩
          rw [List.drop_eq_getElem_cons hlt] at hr
          have hd' : ds[i] = d := by
            rw [List.getElem?_eq_getElem hlt] at hd
            exact Option.some.inj hd
          rw [hd'] at hr
          unfold lcG at hr
          cases hf : f d (wipeE env vs) with
          | none => rw [hf] at hr; cases hr
          | some e1 =>
            rw [hf] at hr
            simp only at hr ⊢
            intro σ4 H4 O4 on4 s4 _ sr4 eo
            subst eo
            refine ⟨(wipe_only on4 hws).trans wipe_idem, g, _, e1, sr4, ?_⟩
            cases hb : nc e1 with
            | err => rw [hb] at hr; cases hr
            | exc c d => rw [hb] at hr; cases hr
            | ok b =>
              rw [hb] at hr
              simp only [noX, Res.bind_ok] at hr
              intro H5 s5
              have s35 : Same H2 H5 := (s3.trans s4).trans s5
              cases b with
              | false =>
                rw [if_neg Bool.false_ne_true] at hr
                rw [if_neg Bool.false_ne_true]
                exact ⟨s2.trans s35, acc, da, rest, s35 _ _ hacc, ra.mono (Sub.same s35 _), hr, hy⟩
              | true =>
                rw [if_pos rfl] at hr
                rw [if_pos rfl]
                refine ⟨g, _, e1, sr4.grow s5, ?_⟩
                cases hm : m e1 with
                | err => rw [hm] at hr; cases hr
                | exc c d => rw [hm] at hr; cases hr
                | ok y' =>
                  rw [hm] at hr
                  simp only [noX, Res.bind_ok] at hr
                  cases hl : lcG f nc m (ds.drop (i + 1)) (wipeE env vs) with
                  | err => rw [hl] at hr; cases hr
                  | exc c d => rw [hl] at hr; cases hr
                  | ok r2 =>
                    rw [hl] at hr
                    simp only [Res.bind_ok] at hr
                    cases hr
                    intro H6 v s6 rv
                    have rv : Rp H6 (fun b => O b ∨ b = D) y' v := rv
                    have s36 : Same H2 H6 := s35.trans s6
                    have hacc6 := s36 _ _ hacc
                    have ra6 := ra.mono (Sub.same s36 (fun b => O b ∨ b = D))
                    have su : Sub H6 (fun b => O b ∨ b = D) (upd H6 D (.lst (acc ++ [v]))) (fun b => O b ∨ b = D) := Sub.upd (.inr rfl)
                    refine ⟨acc, hacc6, ?_, ?_, acc ++ [v], da ++ [y'], r2, upd_same, (ra6.append (.cons rv .nil)).mono su, rfl, ?_⟩
                    · rw [← ra6.length]
                      have : da.length + (r2.length + 1) ≤ sizeLine := by
                        have e := congrArg List.length hy
                        rw [List.length_append, List.length_cons] at e
                        omega
                      omega
                    · intro b u e
                      rw [upd_ne (ne_of_none e hD)]
                      exact (s2.trans s36) _ _ e
                    · rw [List.append_assoc]; exact hy
        · have hl : i = ds.length := by omega
          subst hl
          refine .inl ⟨stop (Nat.le_refl _), ?_⟩
          rw [List.drop_length] at hr
          unfold lcG at hr
          cases hr
          rw [List.append_nil] at hy
          subst hy
          exact q H2 _ (s1.trans s2) ⟨D, rfl, s1.free hD, .lst hacc ra⟩
      · rw [if_neg hz] at q
        exact q.elim
variable {elt tg iter : Expr} {ifs : List Expr} {scope : Scope} {own : List (Str × Nat)} {pos : Pos}
theorem de_lc (hc : X.calm = true) (hN : X.N.Nodup) (hws : ∀ i ∈ ws, i ∈ own.map (·.2)) (hi : DIS X G M tg iter mi) (ok : BlkOk X.N X.env.scope scope own)
    (hg : ∀ (s : Shared) (H : Hp) (C : Addr) (cl : List (Str × Addr)) (fp : List Addr), DG (X.blk s H scope (compEnvC scope cl C X.env) fp) (wipeM M (own.map (·.2))) Mt ws tg f)
    (ht : ∀ (s : Shared) (H : Hp) (C : Addr) (cl : List (Str × Addr)) (fp : List Addr), DTs (X.blk s H scope (compEnvC scope cl C X.env) fp) G.blk Mt ifs nc)
    (he : ∀ (s : Shared) (H : Hp) (C : Addr) (cl : List (Str × Addr)) (fp : List Addr), DE (X.blk s H scope (compEnvC scope cl C X.env) fp) G.blk Mt .pl elt m) (hs : ∀ x, foldedSetIterable iter X.env x = pure x := by intro _; rfl) :
    DE X G M .fr (.ListComp elt [⟨tg, iter, ifs, 0⟩] scope pos) (mLc mi f nc m (own.map (·.2))) := pe_imp (pe_lc hc hN hi ok hg ht he hs) (tLc_ok hws)
/-- y = [..] on one line, y a local -/
theorem ds_setLcG {i : Nat} {y : Str} {py spos : Pos} (hx : mle M L.Mx = true) (hc : X.calm = true) (hN : X.N.Nodup) (hy : X.N[i]? = some y) (hyl : X.env.scope.names.lookup y = some .local) (hws : ∀ i ∈ ws, i ∈ own.map (·.2))
    (hsw : swapsWith (.ListComp elt [⟨tg, iter, ifs, 0⟩] scope pos) (some (.Name y py)) spos.line X.env = pure true) (hi : DIS X G M tg iter mi) (ok : BlkOk X.N X.env.scope scope own)
    (hg : ∀ (s : Shared) (H : Hp) (C : Addr) (cl : List (Str × Addr)) (fp : List Addr), DG (X.blk s H scope (compEnvC scope cl C X.env) fp) (wipeM M (own.map (·.2))) Mt ws tg f)
    (ht : ∀ (s : Shared) (H : Hp) (C : Addr) (cl : List (Str × Addr)) (fp : List Addr), DTs (X.blk s H scope (compEnvC scope cl C X.env) fp) G.blk Mt ifs nc)
    (he : ∀ (s : Shared) (H : Hp) (C : Addr) (cl : List (Str × Addr)) (fp : List Addr), DE (X.blk s H scope (compEnvC scope cl C X.env) fp) G.blk Mt .pl elt m) (hs : ∀ x, foldedSetIterable iter X.env x = pure x := by intro _; rfl) :
    DS X G L M (M.set i .ow) (.Assign [.Name y py] (.ListComp elt [⟨tg, iter, ifs, 0⟩] scope pos) spos) (oSet i (mLc mi f nc m (own.map (·.2)))) :=
  ps_imp (ps_setLc hc hN hy hyl hsw hi ok hg ht he hs) fun E σ H h => by
    obtain ⟨g, O, env, sr, q⟩ := tS_iff.mp h
    refine tLc_ok hws σ H _ (tE_go sr hx q fun d q H' v s r => ?_)
    obtain ⟨p, rfl, n, r⟩ := r
    obtain ⟨sub, sr'⟩ := sr.setO i s n r
    exact q _ _ _ sub sr'
end
end DL

namespace DL
open PySem PySem.Spec L2
section
variable {X : Cx} {G : Gd} {L : Lp} {M : List Md} {k ka kb kc : Kd} {a b c e : Expr} {m ma mb mc : Env' → Res D} {ms : Env' → Res (List D)} {pos : Pos}
/-! ### a op b op' c -/
def mChain (f f' : D → D → Option D) (ma mb mc : Env' → Res D) : Env' → Res D := fun env => (ma env).bind fun x => (mb env).bind fun y => (Res.of (f x y)).bind fun z => (asB z).bind fun k => if k = true then (mc env).bind fun w => Res.of (f' y w) else .ok (.bool false)
theorem tChain_ok {r r' : R2} {f f' : D → D → Option D} (hB : B2 .pl r f) (hB' : B2 .pl r' f') (σ : L2.St) (H : Hp) (Q : VK) (h : tE G M .pl (mChain f f' ma mb mc) σ H Q) : tChain r r' (tE G M .co ma) (tE G M .co mb) (tE G M .co mc) σ H Q := by
  obtain ⟨g, O, env, sr, q⟩ := h
  refine ⟨g, O, env, sr, ?_⟩
  unfold mChain at q
  cases ha : ma env with
  | err => rw [ha] at q; exact q
  | exc c d => rw [ha] at q; exact q
  | ok x =>
    rw [ha, Res.bind_ok] at q
    intro H1 v1 s1 r1
    refine ⟨g, O, env, sr.grow s1, ?_⟩
    cases hb : mb env with
    | err => rw [hb] at q; exact q
    | exc c d => rw [hb] at q; exact XW.grow s1 q
    | ok y =>
      rw [hb, Res.bind_ok] at q
      intro H2 v2 s2 r2
      have s12 := s1.trans s2
      cases hf : f x y with
      | none => rw [hf] at q; exact q.elim
      | some d =>
        rw [hf, Res.of_some, Res.bind_ok] at q
        refine hB (Trk.grow sr.tr s12) (Rc.same s2 r1) r2 hf fun H3 v s3 r => ?_
        cases d <;> simp only [asB, Res.bind_err] at q
        case bool t =>
          rw [Res.bind_ok] at q
          refine ⟨t, Rc.bl_inv (.of r), ?_⟩
          have s13 := s12.trans s3
          cases t with
          | false =>
            rw [if_neg Bool.false_ne_true] at q ⊢
            exact q H3 _ s13 (.bl _)
          | true =>
            rw [if_pos rfl] at q ⊢
            refine ⟨g, O, env, sr.grow s13, ?_⟩
            cases hc : mc env with
            | err => rw [hc] at q; exact q
            | exc c d => rw [hc] at q; exact XW.grow s13 q
            | ok w =>
              rw [hc, Res.bind_ok] at q
              intro H4 v4 s4 r4
              cases hf2 : f' y w with
              | none => rw [hf2] at q; exact q.elim
              | some d2 =>
                rw [hf2] at q
                exact hB' (Trk.grow sr.tr (s13.trans s4)) (Rc.same (s3.trans s4) r2) r4 hf2 fun H' v s r => q H' v ((s13.trans s4).trans s) r
theorem de_chain {op op' : CmpOp} {r r' : R2} {f f' : D → D → Option D} (ho : OpR X (compareOp op) r) (ho' : OpR X (compareOp op') r') (hB : B2 .pl r f) (hB' : B2 .pl r' f') (ha : DE X G M ka a ma) (hb : DE X G M kb b mb) (hc : DE X G M kc c mc)
    (hm : lastMarks [op, op'] [b, c] = false := by with_unfolding_all rfl) : DE X G M .pl (.Compare a [op, op'] [b, c] pos) (mChain f f' ma mb mc) := pe_imp (pe_chain ho ho' ha.co hb.co hc.co hm) (tChain_ok hB hB')
theorem dt_chain {op op' : CmpOp} {r r' : R2} {f f' : D → D → Option D} (ho : OpR X (compareOp op) r) (ho' : OpR X (compareOp op') r') (hB : B2 .pl r f) (hB' : B2 .pl r' f') (ha : DE X G M ka a ma) (hb : DE X G M kb b mb) (hc : DE X G M kc c mc)
    (hm : lastMarks [op, op'] [b, c] = false := by with_unfolding_all rfl) : DT X G M (.Compare a [op, op'] [b, c] pos) (mB (mChain f f' ma mb mc)) := pt_imp (pt_chain ho ho' ha.co hb.co hc.co hm) fun σ H Q h => by
  obtain ⟨g, O, env, sr, q⟩ := h
  refine tChain_ok (G := G) (M := M) hB hB' σ H _ ⟨g, O, env, sr, ?_⟩
  unfold mB at q
  cases h : mChain f f' ma mb mc env with
  | err => rw [h] at q; exact q
  | exc c d => rw [h] at q; exact q
  | ok d =>
    rw [h, Res.bind_ok] at q
    intro H' v s r
    cases d <;> simp only [asB] at q
    case bool b => exact ⟨b, Rc.bl_inv (.of r), q H' s⟩
/-! ### sum, any, all of lists -/
def intsOf : List D → Option (List Int)
  | [] => some []
  | .int i :: ds => (intsOf ds).map (i :: ·)
  | _ => none
def boolsOf : List D → Option (List Bool)
  | [] => some []
  | .bool i :: ds => (boolsOf ds).map (i :: ·)
  | _ => none
theorem intsOf_ok {H : Hp} {O : AS} : ∀ {ds : List D} {vs : List V} {ns : List Int}, RpA H O ds vs → intsOf ds = some ns → vs = ns.map V.int
  | _, _, _, .nil, h => by cases h; rfl
  | _, _, _, .cons (d := d) (ds := ds) a b, h => by
    cases d <;> simp only [intsOf] at h <;> try cases h
    case int i =>
      cases e : intsOf ds with
      | none => rw [e] at h; cases h
      | some ns' =>
        rw [e] at h; cases h
        cases a
        rw [List.map_cons, intsOf_ok b e]
theorem boolsOf_ok {H : Hp} {O : AS} : ∀ {ds : List D} {vs : List V} {ns : List Bool}, RpA H O ds vs → boolsOf ds = some ns → vs = ns.map V.bl
  | _, _, _, .nil, h => by cases h; rfl
  | _, _, _, .cons (d := d) (ds := ds) a b, h => by
    cases d <;> simp only [boolsOf] at h <;> try cases h
    case bool i =>
      cases e : boolsOf ds with
      | none => rw [e] at h; cases h
      | some ns' =>
        rw [e] at h; cases h
        cases a
        rw [List.map_cons, boolsOf_ok b e]
def sumD : List D → Option D
  | [.list ds] => (intsOf ds).map fun ns => .int ns.sum
  | _ => none
def anyD : List D → Option D
  | [.list ds] => (boolsOf ds).map fun ns => .bool (ns.any id)
  | _ => none
def allD : List D → Option D
  | [.list ds] => (boolsOf ds).map fun ns => .bool (ns.all id)
  | _ => none
theorem cb_sum {K : PySem.W.Frag} : CB .pl .co (rSum K) sumD := by
  intro H O vs ds d Q tr r hf q
  unfold sumD at hf
  split at hf
  · rename_i xs
    cases e : intsOf xs with
    | none => rw [e] at hf; cases hf
    | some ns =>
      rw [e] at hf; cases hf
      obtain ⟨v, rfl, r1⟩ := RcA.one r
      obtain ⟨p, ys, rfl, e1, r2⟩ := r1.list_inv
      cases intsOf_ok r2 e
      exact ⟨p, ns, rfl, Rd.seqL e1, q H _ (Same.refl H) (.int _)⟩
  · cases hf
theorem cb_any {K : PySem.W.Frag} : CB .pl .co (rAny K) anyD := by
  intro H O vs ds d Q tr r hf q
  unfold anyD at hf
  split at hf
  · rename_i xs
    cases e : boolsOf xs with
    | none => rw [e] at hf; cases hf
    | some ns =>
      rw [e] at hf; cases hf
      obtain ⟨v, rfl, r1⟩ := RcA.one r
      obtain ⟨p, ys, rfl, e1, r2⟩ := r1.list_inv
      cases boolsOf_ok r2 e
      exact ⟨p, ns, rfl, Rd.seqL e1, q H _ (Same.refl H) (.bl _)⟩
  · cases hf
theorem cb_all {K : PySem.W.Frag} : CB .pl .co (rAll K) allD := by
  intro H O vs ds d Q tr r hf q
  unfold allD at hf
  split at hf
  · rename_i xs
    cases e : boolsOf xs with
    | none => rw [e] at hf; cases hf
    | some ns =>
      rw [e] at hf; cases hf
      obtain ⟨v, rfl, r1⟩ := RcA.one r
      obtain ⟨p, ys, rfl, e1, r2⟩ := r1.list_inv
      cases boolsOf_ok r2 e
      exact ⟨p, ns, rfl, Rd.seqL e1, q H _ (Same.refl H) (.bl _)⟩
  · cases hf
/-! ### methods that give a value -/
def MB (k : Kd) (r : V → List V → Hp → VK → Prop) (f : D → List D → Option D) : Prop := ∀ {H : Hp} {O : AS} {x : V} {vs : List V} {dx : D} {ds : List D} {d : D} {Q : VK}, Trk H O → Rc H O dx x → RcA H O ds vs → f dx ds = some d →
  (∀ H' v, Same H H' → RK k H O H' d v → Q v H') → r x vs H Q
def mM1 (ok : D → Bool) (f : D → List D → Option D) (ma : Env' → Res D) (ms : Env' → Res (List D)) : Env' → Res D := fun env => (ma env).bind fun x => if ok x = true then (ms env).bind fun ds => Res.of (f x ds) else .err
def isStrD : D → Bool
  | .str _ => true
  | _ => false
def isListD : D → Bool
  | .list _ => true
  | _ => false
theorem tM1_ok {T : String} {K : PySem.W.Frag} {ok : D → Bool} {r : V → List V → Hp → VK → Prop} {f : D → List D → Option D} (hty : ∀ H O d v, Rc H O d v → ok d = true → tyV K T v H) (hM : MB k r f) (σ : L2.St) (H : Hp) (Q : VK) (h : tE G M k (mM1 ok f ma ms) σ H Q) :
    tBM K T r (tE G M .co ma) (tAs G M .co ms) σ H Q := by
  obtain ⟨g, O, env, sr, q⟩ := h
  refine ⟨g, O, env, sr, ?_⟩
  unfold mM1 at q
  cases ha : ma env with
  | err => rw [ha] at q; exact q
  | exc c d => rw [ha] at q; exact q
  | ok x =>
    rw [ha, Res.bind_ok] at q
    intro H1 v1 s1 r1
    by_cases hx : ok x = true
    · rw [if_pos hx] at q
      refine ⟨hty _ _ _ _ r1 hx, g, O, env, sr.grow s1, ?_⟩
      cases hb : ms env with
      | err => rw [hb] at q; exact q
      | exc c d => rw [hb] at q; exact XW.grow s1 q
      | ok ds =>
        rw [hb, Res.bind_ok] at q
        intro H2 vs s2 r2
        cases hf : f x ds with
        | none => rw [hf] at q; exact q.elim
        | some d =>
          rw [hf] at q
          exact hM (Trk.grow sr.tr (s1.trans s2)) (Rc.same s2 r1) r2 hf fun H' v s r => q H' v ((s1.trans s2).trans s) (RK.back (s1.trans s2) r)
    · rw [if_neg hx] at q
      exact q.elim
theorem ty_str {K : PySem.W.Frag} : ∀ H O d v, Rc H O d v → isStrD d = true → tyV K "str" v H := by
  intro H O d v r h
  cases d <;> simp only [isStrD] at h <;> try cases h
  cases r.str_inv
  rfl
theorem ty_list {K : PySem.W.Frag} : ∀ H O d v, Rc H O d v → isListD d = true → tyV K "list" v H := by
  intro H O d v r h
  cases d <;> simp only [isListD] at h <;> try cases h
  obtain ⟨p, xs, rfl, e, _⟩ := r.list_inv
  exact .inl ⟨rfl, xs, Rd.seqL e⟩
def strsOf : List D → Option (List Str)
  | [] => some []
  | .str i :: ds => (strsOf ds).map (i :: ·)
  | _ => none
theorem strsOf_ok {H : Hp} {O : AS} : ∀ {ds : List D} {vs : List V} {ns : List Str}, RpA H O ds vs → strsOf ds = some ns → vs = ns.map V.str
  | _, _, _, .nil, h => by cases h; rfl
  | _, _, _, .cons (d := d) (ds := ds) a b, h => by
    cases d <;> simp only [strsOf] at h <;> try cases h
    case str i =>
      cases e : strsOf ds with
      | none => rw [e] at h; cases h
      | some ns' =>
        rw [e] at h; cases h
        cases a
        rw [List.map_cons, strsOf_ok b e]
def joinD : D → List D → Option D
  | .str a, [.list ds] => (strsOf ds).bind fun ys => if (ys.map (·.length)).sum + ys.length * a.length ≤ 16777216 then some (.str (Str.join a ys)) else none
  | _, _ => none
theorem mb_join {K : PySem.W.Frag} : MB .pl (fun x xs H Q => ∃ a p, ∃ ys : List Str, x = .str a ∧ xs = [.ref p] ∧ (SqL K H p (ys.map V.str) ∨ SqT K H p (ys.map V.str)) ∧
    (ys.map (·.length)).sum + ys.length * a.length ≤ 16777216 ∧ Q (.str (Txt.join a ys)) H) joinD := by
  intro H O x vs dx ds d Q tr rx rv hf q
  unfold joinD at hf
  split at hf
  · rename_i a xs
    cases e : strsOf xs with
    | none => rw [e] at hf; cases hf
    | some ys =>
      rw [e, Option.bind_some] at hf
      split at hf
      · rename_i hz
        cases hf
        cases rx.str_inv
        obtain ⟨v, rfl, r1⟩ := RcA.one rv
        obtain ⟨p, zs, rfl, e1, r2⟩ := r1.list_inv
        cases strsOf_ok r2 e
        exact ⟨a, p, ys, rfl, rfl, .inl (Rd.seqL e1), hz, by rw [TL.join_eq]; exact q H _ (Same.refl H) (.str _)⟩
      · cases hf
  · cases hf
theorem de_join {o arg : Expr} {apos : Pos} (ho : DE X G M ka o ma) (he : DE X G M kb arg m) (hs : starEach [arg] X.env = [(false, eval arg X.env)] := by rfl) (hbase : attributeBase o "join" X.env (eval o X.env) = eval o X.env := by rfl) (hline : (apos.endLine == pos.line) = true := by rfl)
    (hfew : ((backTo pos (starEach [arg] X.env)).all (fun x => !x.1) && (backToKw pos (keywordEach [] X.env)).all (fun x => x.1.isSome)
      && decide ([arg].length + ([] : List Keyword).length + (if ([] : List Keyword).isEmpty then 0 else 1) < 30)) = true := by rfl) :
    DE X G M .pl (.Call (.Attribute o "join" apos) [arg] [] pos) (mM1 isStrD joinD ma (aCons m aNil)) :=
  pe_imp (pe_bm PySem.F.plainAttrs_str PySem.F.slot_str_join PySem.F.type_str_join mt_join ho.co (da_consC he da_nil hs) hbase hfew hline hs) (tM1_ok ty_str mb_join)
/-- xs.index(y) of data -/
def indexD : D → List D → Option D
  | .list ds, [d] => if SeqAt.shaped (.list ds) && SeqAt.shaped d then (ds.findIdx? fun z => PyData.eqv z d).map fun j => .int j else none
  | _, _ => none
theorem mb_index {K : PySem.W.Frag} : MB .pl (rIndexD K) indexD := by
  intro H O x vs dx ds d Q tr rx rv hf q
  unfold indexD at hf
  split at hf
  · rename_i xs y
    by_cases hs : (SeqAt.shaped (.list xs) && SeqAt.shaped y) = true
    · rw [if_pos hs] at hf
      have h1 := (Bool.and_eq_true_iff.mp hs).1
      have h2 := (Bool.and_eq_true_iff.mp hs).2
      cases e : xs.findIdx? fun z => PyData.eqv z y with
      | none => rw [e] at hf; cases hf
      | some j =>
        rw [e] at hf; cases hf
        obtain ⟨v, rfl, r1⟩ := RcA.one rv
        obtain ⟨p, zs, rfl, e1, r2⟩ := rx.list_inv
        obtain ⟨hj, h3, h4⟩ := List.findIdx?_eq_some_iff_getElem.mp e
        refine ⟨p, v, y, xs, j, xs[j], rfl, rfl, .lst (Rd.seqL e1) (r2.dp (canLay_of_shaped h1)), r1.dp (canLay_of_shaped h2), h1, h2, List.getElem?_eq_getElem hj, h3, fun i z hi hz => ?_, q H _ (Same.refl H) (.int _)⟩
        have := h4 i hi
        obtain ⟨hlt, hz'⟩ := List.getElem?_eq_some_iff.mp hz
        rw [hz'] at this
        simpa using this
    · rw [if_neg hs] at hf
      cases hf
  · cases hf
theorem de_index {o arg : Expr} {apos : Pos} (hu : X.A.units + 65 < cLine) (ho : DE X G M ka o ma) (he : DE X G M kb arg m) (hs : starEach [arg] X.env = [(false, eval arg X.env)] := by rfl) (hbase : attributeBase o "index" X.env (eval o X.env) = eval o X.env := by rfl) (hline : (apos.endLine == pos.line) = true := by rfl)
    (hfew : ((backTo pos (starEach [arg] X.env)).all (fun x => !x.1) && (backToKw pos (keywordEach [] X.env)).all (fun x => x.1.isSome)
      && decide ([arg].length + ([] : List Keyword).length + (if ([] : List Keyword).isEmpty then 0 else 1) < 30)) = true := by rfl) :
    DE X G M .pl (.Call (.Attribute o "index" apos) [arg] [] pos) (mM1 isListD indexD ma (aCons m aNil)) :=
  pe_imp (pe_bm PySem.F.plainAttrs_list PySem.F.slot_list_index PySem.F.type_list_index (mt_indexD hu) ho.co (da_consC he da_nil hs) hbase hfew hline hs) (tM1_ok ty_list mb_index)

/-! ### isinstance(x, T), T a built-in type -/
def tyOfD : D → String
  | .none => "NoneType"
  | .bool _ => "bool"
  | .int _ => "int"
  | .str _ => "str"
  | .list _ => "list"
  | .tuple _ => "tuple"
  | .dict _ => "dict"
def isiD (T : String) : D → Option D
  | .dict _ => none
  | d => (kitB (tyOfD d) T).map .bool
theorem TyX_of {K : PySem.W.Frag} {H : Hp} {O : AS} {d : D} {v : V} (r : Rc H O d v) (hd : ∀ kvs, d ≠ .dict kvs) : TyX K H v (.type (tyOfD d)) := by
  cases d with
  | none => cases r.non_inv; exact .base .non
  | bool b => cases r.bl_inv; exact .base (.bl b)
  | int i => cases r.int_inv; exact .base (.int i)
  | str x => cases r.str_inv; exact .base (.str x)
  | list ds =>
    obtain ⟨p, xs, rfl, e, _⟩ := r.list_inv
    rcases e with e | ⟨o, e⟩
    · exact .base (.lst e)
    · exact .base (.frz e)
  | tuple ds =>
    obtain ⟨p, xs, rfl, e, _⟩ := r.tuple_inv
    rcases e with e | ⟨o, e⟩
    · exact .base (.tup e)
    · exact .fTuple e
  | dict kvs => exact absurd rfl (hd kvs)
/-- the second argument: a type's name -/
def mIsi (T : String) (m : Env' → Res D) : Env' → Res D := fun env => (m env).bind fun x => Res.of (isiD T x)
theorem de_isi {x : Expr} {tn : Str} {T : String} {p p2 : Pos} (hg : Gl X "isinstance") (hm : X.mg "isinstance" = none) (hv : bootBuiltins "isinstance" = some (.builtin "isinstance")) (hx : DE X G M ka x m) (hT : PE X (.Name tn p2) (tC (.ty T)))
    (hs : starEach [x, .Name tn p2] X.env = [(false, eval x X.env), (false, eval (.Name tn p2) X.env)] := by rfl) (hs2 : starEach [.Name tn p2] X.env = [(false, eval (.Name tn p2) X.env)] := by rfl) : DE X G M .pl (.Call (.Name "isinstance" p) [x, .Name tn p2] [] pos) (mIsi T m) :=
  pe_imp (pe_callB call_isi hg hm hv (pa_cons hx.co (pa_cons hT pa_nil hs2) (by rw [hs, hs2])) (he := by rw [hs, hs2]) (hpl := by rw [hs2]; rfl)) fun σ H Q ⟨g, O, env, sr, q⟩ => by
    refine ⟨g, O, env, sr, ?_⟩
    unfold mIsi at q
    cases h : m env with
    | err => rw [h] at q; exact q
    | exc c d => rw [h] at q; exact q
    | ok d =>
      rw [h, Res.bind_ok] at q
      intro H1 v s r
      have key : ∀ b, kitB (tyOfD d) T = some b → (∀ kvs, d ≠ .dict kvs) → isiD T d = some (.bool b) → rIsi X.K [v, .ty T] H1 Q := by
        intro b hb hd hi
        rw [hi] at q
        exact ⟨v, .ty T, _, _, b, rfl, .ty T, TyX_of r hd, kit_ty hb, q H1 _ s (.bl _)⟩
      cases hi : isiD T d with
      | none => rw [hi] at q; exact q.elim
      | some y =>
        cases d <;> simp only [isiD] at hi <;> try cases hi
        all_goals
          cases hb : kitB (tyOfD _) T with
          | none => rw [hb] at hi; cases hi
          | some b => exact key b hb (fun kvs z => by cases z) (by simp only [isiD, hb]; rfl)
/-- a type's name, a module's constant -/
theorem de_glob {x : Str} {v : V} {d : D} {u : Value} (hg : Gl X x) (hm : X.mg x = some u) (rv : RelV v u) (r : ∀ H O, Rp H O d v) (hd : (x == ("__debug__" : Str)) = false := by decide) : DE X G M .pl (.Name x pos) (mC d) := de_c (pe_glob hg hm rv hd) r
end
end DL

namespace DL
open PySem PySem.Spec L2
theorem bt_len : bootBuiltins "len" = some (.builtin "len") := by decide +kernel
theorem bt_abs : bootBuiltins "abs" = some (.builtin "abs") := by decide +kernel
theorem bt_max : bootBuiltins "max" = some (.builtin "max") := by decide +kernel
theorem bt_min : bootBuiltins "min" = some (.builtin "min") := by decide +kernel
theorem bt_sum : bootBuiltins "sum" = some (.builtin "sum") := by decide +kernel
theorem bt_any : bootBuiltins "any" = some (.builtin "any") := by decide +kernel
theorem bt_all : bootBuiltins "all" = some (.builtin "all") := by decide +kernel
theorem bt_isinstance : bootBuiltins "isinstance" = some (.builtin "isinstance") := by decide +kernel
theorem bt_repr : bootBuiltins "repr" = some (.builtin "repr") := by decide +kernel
theorem bt_sorted : bootBuiltins "sorted" = some (.builtin "sorted") := by decide +kernel
theorem bt_int : bootBuiltins "int" = some (.type "int") := by decide +kernel
theorem bt_list : bootBuiltins "list" = some (.type "list") := by decide +kernel
theorem bt_tuple : bootBuiltins "tuple" = some (.type "tuple") := by decide +kernel
theorem bt_dict : bootBuiltins "dict" = some (.type "dict") := by decide +kernel
theorem bt_str : bootBuiltins "str" = some (.type "str") := by decide +kernel
theorem bt_bool : bootBuiltins "bool" = some (.type "bool") := by decide +kernel
theorem bt_set : bootBuiltins "set" = some (.type "set") := by decide +kernel
theorem hr65 {k : Nat} {A : Around} (hr : Room k A) : A.units + 65 < cLine := by have := hr.un; omega
def wfuel : Nat := 1000000000
section
variable {X : Cx} {G : Gd} {L : Lp} {M Mt : List Md} {k ka kb kc : Kd} {a b c e : Expr} {m ma mb mc : Env' → Res D} {ms mi : Env' → Res (List D)} {pos : Pos}
/-! ### int, text or list times an int -/
theorem flat_rep (x : Array Nat) : ∀ n : Nat, (List.replicate n x).foldl (· ++ ·) #[] = (List.replicate n x.toList).flatten.toArray := by
  have key : ∀ (n : Nat) (acc : Array Nat), (List.replicate n x).foldl (· ++ ·) acc = acc ++ (List.replicate n x.toList).flatten.toArray := by
    intro n
    induction n with
    | zero => intro acc; simp
    | succ n ih =>
      intro acc
      rw [List.replicate_succ, List.foldl_cons, ih, List.replicate_succ, List.flatten_cons]
      apply Array.ext'
      simp
  intro n
  rw [key n #[]]
  simp
def rMulS : R2 := fun x y H Q => ∃ (z : Str) (j : Int), x = .str z ∧ y = .int j ∧ 0 ≤ j ∧ z.length * j.toNat ≤ 1000000 ∧ j ≤ 1000000 ∧ Q (.str (repS z j.toNat)) H
theorem repS_one (z : Str) : repS z 1 = z := by
  unfold repS
  simp
theorem repS_empty {z : Str} (h : z.length = 0) (n : Nat) : repS z n = z := by
  obtain ⟨c⟩ := z
  have hc : c = #[] := by
    apply Array.eq_empty_of_size_eq_zero
    exact h
  subst hc
  unfold repS
  congr 1
  have : (List.replicate n ([] : List Nat)).flatten = [] := by
    induction n with
    | zero => rfl
    | succ n ih => rw [List.replicate_succ, List.flatten_cons, ih]; rfl
  simp [this]
theorem op_mulS : OpR X (binaryOp .Mult) rMulS := by
  intro pins s σ H x y v u Q I rx ry h
  obtain ⟨z, j, rfl, rfl, h0, h1, h2, q⟩ := h
  obtain ⟨t, rfl⟩ := rx
  obtain ⟨t', rfl⟩ := ry
  have fin : ∀ {w' : Str} {tk tk' : Tok}, w' = repS z j.toNat → EP X pins σ Q (.str w' tk) { s with toks := tk' } := fun {w' tk tk'} e => ⟨.str w', H, I.tok _, ⟨_, rfl⟩, by rw [e]; exact q⟩
  have fin0 : ∀ {w' : Str} {tk : Tok}, w' = repS z j.toNat → EP X pins σ Q (.str w' tk) s := fun {w' tk} e => ⟨.str w', H, I, ⟨_, rfl⟩, by rw [e]; exact q⟩
  refine PySem.P.mul_str ?_ (fun hn ho => ?_) (fun hn ho => ?_) ?_
  · rw [decide_eq_false (by omega), decide_eq_false (by omega)]
    rfl
  · have hj : 1 ≤ j := by omega
    have : (z.length : Int) ≤ 1000000 := by
      have h3 : z.length * 1 ≤ z.length * j.toNat := Nat.mul_le_mul_left _ (by omega)
      omega
    have h5 : (1000001 : Int) ≤ (2 ^ 63 - 1) / j := by
      refine Int.le_ediv_of_mul_le (by omega) ?_
      have : (1000001 : Int) * j ≤ 1000001 * 1000000 := Int.mul_le_mul_of_nonneg_left h2 (by decide)
      omega
    omega
  · unfold Builtin.Str.tooLong
    simp only [decide_eq_false_iff_not, Nat.not_lt]
    rw [sizeLine_eq]
    omega
  · by_cases hj : j < 1
    · rw [if_pos hj]
      refine ⟨by decide, fin ?_⟩
      have : j.toNat = 0 := by omega
      rw [this]
      rfl
    · rw [if_neg hj]
      by_cases ho : (j == 1 || z.length == 0) = true
      · rw [if_pos ho]
        refine fin0 ?_
        rcases Bool.or_eq_true_iff.mp ho with e | e
        · have : j = 1 := by simpa using e
          subst this
          exact (repS_one z).symm
        · exact (repS_empty (by simpa using e) _).symm
      · rw [if_neg ho]
        refine ⟨?_, fin ?_⟩
        · rw [flat_rep]
          show (List.replicate j.toNat z.cps.toList).flatten.toArray.size ≤ sizeLine
          rw [List.size_toArray, List.length_flatten, List.map_replicate, List.sum_replicate_nat, sizeLine_eq]
          have : z.cps.toList.length = z.length := by simp [Str.length]
          rw [this, Nat.mul_comm]
          omega
        · rw [flat_rep]
          rfl
def mulA : D → D → Option D
  | .int i, .int j => if CMul i j then some (.int (i * j)) else none
  | .str x, .int j => if 0 ≤ j ∧ x.length * j.toNat ≤ 1000000 ∧ j ≤ 1000000 then some (.str (repS x j.toNat)) else none
  | .list xs, .int j => if 0 ≤ j ∧ xs.length * j.toNat ≤ 1000000 ∧ j ≤ 1000000 then some (.list (List.replicate j.toNat xs).flatten) else none
  | _, _ => none
def rMulL : R2 := fun x y H Q => ∃ l k xs, x = .ref l ∧ y = .int k ∧ H l = some (.lst xs) ∧ -(2 ^ 63) ≤ k ∧ k < 2 ^ 63 ∧ xs.length * k.toNat ≤ sizeLine ∧
  ∀ p, H p = none → Q (.ref p) (upd H p (.lst (List.replicate k.toNat xs).flatten))
def mulG : D → D → Option D
  | .int i, .int j => if CMul i j then some (.int (i * j)) else none
  | .str x, .int j => if 0 ≤ j ∧ x.length * j.toNat ≤ 1000000 ∧ j ≤ 1000000 then some (.str (repS x j.toNat)) else none
  | _, _ => none
theorem b2_mul : B2 .pl (fun x y H Q => rI CMul (fun i j => .int (i * j)) x y H Q ∨ rMulS x y H Q) mulG := by
  intro H O x y dx dy d Q tr rx ry hf q
  cases dx <;> cases dy <;> simp only [mulG] at hf <;> try cases hf
  case int.int i j =>
    cases rx.int_inv; cases ry.int_inv
    split at hf <;> cases hf
    rename_i hc
    exact .inl ⟨i, j, rfl, rfl, hc, q H _ (Same.refl H) (.int _)⟩
  case str.int x j =>
    cases rx.str_inv; cases ry.int_inv
    split at hf <;> cases hf
    rename_i hc
    exact .inr ⟨x, j, rfl, rfl, hc.1, hc.2.1, hc.2.2, q H _ (Same.refl H) (.str _)⟩
theorem de_mul (ha : DE X G M ka a ma) (hb : DE X G M kb b mb) : DE X G M .pl (.BinOp a .Mult b pos) (m2 mulG ma mb) := de_op (op_mul.or op_mulS) b2_mul ha hb
/-! ### lists by + and slices, owned -/
def catD : D → D → Option D := fun x y => match x, y with | .list x, .list y => if x.length + y.length ≤ sizeLine then some (.list (x ++ y)) else none | _, _ => none
theorem de_cat (ha : DE X G M ka a ma) (hb : DE X G M kb b mb) : DE X G M .fr (.BinOp a .Add b pos) (m2 catD ma mb) := de_op op_cat2 b2_cat ha hb
def slLD : D → Option Int → Option Int → Option D := fun x lo hi => match x with | .list ds => some (.list (cut ds lo hi)) | _ => none
theorem de_slL {lo hi : Option Expr} {p2 : Pos} {ml mh : Env' → Res (Option Int)} (ha : DE X G M ka a ma) (hl : DO X G M lo ml) (hh : DO X G M hi mh) : DE X G M .fr (.Subscript a (.Slice lo hi none p2) pos) (m3 slLD ma ml mh) := de_slG sl_list s3_list ha hl hh
/-! ### name += e: ints, texts -/
def ipAddA : TIp := fun x y H Q => ipI (fun i j => i + j) x y H Q ∨ ∃ i j, x = .str i ∧ y = .str j ∧ i.length + j.length ≤ sizeLine ∧ Q (.str (i ++ j)) H
theorem pip_of {op : Operator} {r : TIp} (h : OpR X (inplaceOp op) r) : PIp X op r := by
  intro pins s σ H x y v u Q I rx ry q
  exact h pins s σ H x y v u Q I rx ry q
theorem ip_addA : PIp X .Add ipAddA := by
  intro pins s σ H x y v u Q I rx ry q
  rcases q with q | q
  · exact ip_add pins s σ H x y v u Q I rx ry q
  · exact pip_of iop_add_str pins s σ H x y v u Q I rx ry q
def augAdd : D → D → Option D
  | .int i, .int j => some (.int (i + j))
  | .str x, .str y => if x.length + y.length ≤ sizeLine then some (.str (x ++ y)) else none
  | _, _ => none
theorem i2_addA : I2 ipAddA augAdd := by
  intro H O x y dx dy d Q tr rx ry hf q
  cases dx <;> cases dy <;> simp only [augAdd] at hf <;> try cases hf
  case int.int i j =>
    cases rx.int_inv; cases ry.int_inv
    exact .inl ⟨_, _, rfl, rfl, q H _ (Same.refl H) (.int _)⟩
  case str.str i j =>
    cases rx; cases ry
    split at hf <;> cases hf
    rename_i hz
    exact .inr ⟨_, _, rfl, rfl, hz, q H _ (Same.refl H) (.str _)⟩
variable {ws : List Nat} {f : D → Env' → Option Env'} {nc : Env' → Res Bool}
/-- y = [..] on one line, y a local -/
theorem ds_setLc {elt tg iter : Expr} {ifs : List Expr} {scope : Scope} {own : List (Str × Nat)} {i : Nat} {y : Str} {py spos : Pos} (hx : mle M L.Mx = true) (hc : X.calm = true) (hN : X.N.Nodup) (hws : ∀ i ∈ ws, i ∈ own.map (·.2)) (hi : DIS X G M tg iter mi) (ok : BlkOk X.N X.env.scope scope own)
    (hg : ∀ (s : Shared) (H : Hp) (C : Addr) (cl : List (Str × Addr)) (fp : List Addr), DG (X.blk s H scope (compEnvC scope cl C X.env) fp) (wipeM M (own.map (·.2))) Mt ws tg f)
    (ht : ∀ (s : Shared) (H : Hp) (C : Addr) (cl : List (Str × Addr)) (fp : List Addr), DTs (X.blk s H scope (compEnvC scope cl C X.env) fp) G.blk Mt ifs nc)
    (he : ∀ (s : Shared) (H : Hp) (C : Addr) (cl : List (Str × Addr)) (fp : List Addr), DE (X.blk s H scope (compEnvC scope cl C X.env) fp) G.blk Mt .pl elt m)
    (hy : X.N[i]? = some y := by rfl) (hyl : X.env.scope.names.lookup y = some .local := by rfl)
    (hsw : swapsWith (.ListComp elt [⟨tg, iter, ifs, 0⟩] scope pos) (some (.Name y py)) spos.line X.env = pure true := by exact sw_true rfl rfl rfl (by decide +kernel)) (hs : ∀ x, foldedSetIterable iter X.env x = pure x := by intro _; rfl) :
    DS X G L M (M.set i .ow) (.Assign [.Name y py] (.ListComp elt [⟨tg, iter, ifs, 0⟩] scope pos) spos) (oSet i (mLc mi f nc m (own.map (·.2)))) := ds_setLcG hx hc hN hy hyl hws hsw hi ok hg ht he hs
end
end DL

namespace DL
open PySem PySem.Spec L2
/-! ### errors with one field, at -/
def spInit (K : PySem.W.Frag) : Sp := fun vs H Q _ => ∃ (a C : Addr) (v : V), vs = [.ref a, v] ∧ OexC K C ∧ PySem.W.findIn K (.ref C) "at" = some none ∧ H a = some (exo a C none) ∧
  ∀ dx, H dx = none → dx ≠ a → Q .non (upd (upd H dx (exd dx [(("at" : Str), v)])) a (exo a C (some dx)))
structure ErrF (K : PySem.W.Frag) (mg : Str → Option Value) (x : Str) (C fI : Addr) : Prop where
  g : mg x = some (.ref C)
  t : OexC K C
  i : PySem.W.findIn K (.ref C) "__init__" = some (some (.ref fI))
  n : PySem.W.findIn K (.ref C) "at" = some none
def oRaise (c : Str) (m : Env' → Res D) : Env' → Out := fun env => exOut (m env) env fun d => .exc c d env
section
variable {X : Cx} {G : Gd} {L : Lp} {M M' Mt : List Md} {k ka kb kc : Kd} {a b c e : Expr} {m ma mb mc : Env' → Res D} {ms mi : Env' → Res (List D)} {pos : Pos}
theorem ds_raise {x : Str} {C fI : Addr} {fd : FuncData} {lv : Nat} {ps : List Str} {p pos2 : Pos} (hc : X.calm = true) (Er : ErrF X.K X.mg x C fI) (tI : PySem.W.typeIn X.K (.ref fI) = some (.type "function")) (F1 : FnOk X.prog X.w X.K X.mg X.base (L2.CX X.prog X.w) lv fI fd ps (spInit X.K)) (hr : Room (lv + 1) X.A) (hb : Binds X.K fd ps [])
    (tk : Takes X G.W) (hx : mle M L.Mx = true) (hg : Gl X x) (hG : G.mg x = some (.ref C)) (ha : DE X G M .pl e m) (hdb : (x == ("__debug__" : Str)) = false := by decide) (he : starEach [e] X.env = [(false, eval e X.env)] := by rfl) :
    DS X G L M M' (.Raise (some (.Call (.Name x p) [e] [] pos)) none pos2) (oRaise x m) :=
  ps_imp (L2.ps_raise hc tk (pmk_oex Er.t Er.i tI F1 hr hb .nil passL hg Er.g (da_cons ha da_nil he) hdb he rfl)) fun E σ H h => by
    obtain ⟨g, O, env, sr, q⟩ := tS_iff.mp h
    refine ⟨g, O, env, sr, ?_⟩
    unfold oRaise at q
    unfold aCons aNil
    cases h : m env with
    | err => rw [h] at q; exact q
    | exc c d =>
      rw [h] at q
      exact fun H' dd cls va s h1 h2 h3 => q σ H' O dd cls va (Sub.same s O) ((sr.grow s).weak hx) h1 h2 h3
    | ok d =>
      rw [h, exOut_ok] at q
      simp only [Res.bind_ok]
      intro H1 vs s r
      have r : RpA H1 O [d] vs := r
      cases r with
      | cons r1 r2 =>
        cases r2
        rename_i v
        refine ⟨Nat.succ_le_of_lt (Nat.zero_lt_succ 999), fun a ha => ⟨a, C, v, rfl, Er.t, Er.n, upd_same, fun dx hdx ne => ?_⟩⟩
        have hd1 : H1 dx = none := by rw [upd_ne ne] at hdx; exact hdx
        have e1 : upd (upd (upd H1 a (exo a C none)) dx (exd dx [(("at" : Str), v)])) a (exo a C (some dx)) dx = some (exd dx [(("at" : Str), v)]) := by rw [upd_ne ne, upd_same]
        refine ⟨rfl, dx, _, upd_same, e1, hd1, ?_⟩
        have sm : Same H1 (upd (del (upd (upd (upd H1 a (exo a C none)) dx (exd dx [(("at" : Str), v)])) a (exo a C (some dx))) a) dx (.xd [(("at" : Str), v)])) := fun b u e => by
          have n1 : b ≠ dx := ne_of_none e hd1
          have n2 : b ≠ a := ne_of_none e ha
          rw [upd_ne n1, del_ne n2, upd_ne n2, upd_ne n1, upd_ne n2]
          exact e
        exact q σ _ O dx (.ref C) v (Sub.same (s.trans sm) O) ((sr.grow (s.trans sm)).weak hx) hG upd_same (r1.mono (Sub.same sm O))

/-! ### try -/
theorem SR.reground {H0 H H2 : Hp} {O0 O O2 : AS} {M N : List Md} {env env2 : Env'} {σ σ2 : L2.St} (r : SR H0 O0 M O env σ H) (r2 : SR H O N O2 env2 σ2 H2) : SR H0 O0 N O2 env2 σ2 H2 where
  same := r.same.trans r2.same
  sub0 := fun a h => r2.sub0 a (r.sub0 a h)
  tr := r2.tr
  new := fun a h => by
    rcases r2.new a h with z | z
    · exact r.new a z
    · exact .inr (r.same.free z)
  len := r2.len
  fz := r2.fz
  ow := fun i d hm he => by
    obtain ⟨a, ea, oa, na, ra⟩ := r2.ow i d hm he
    exact ⟨a, ea, oa, fun z => na (r.sub0 a z), ra⟩
  dist := r2.dist
  exs := r2.exs
/-- the modes without what is owned -/
def noOw : List Md → List Md
  | [] => []
  | .ow :: ms => .un :: noOw ms
  | m :: ms => m :: noOw ms
theorem noOw_get : ∀ {M : List Md} {i : Nat} {md : Md}, (noOw M)[i]? = some md → md ≠ .un → M[i]? = some md ∧ md ≠ .ow
  | [], i, md, h, _ => by simp [noOw] at h
  | .ow :: ms, 0, md, h, u => by
    simp [noOw] at h
    exact absurd h.symm u
  | .fz :: ms, 0, md, h, u => by
    simp [noOw] at h
    subst h
    simp
  | .un :: ms, 0, md, h, u => by
    simp [noOw] at h
    exact absurd h.symm u
  | .ex b :: ms, 0, md, h, u => by
    simp [noOw] at h
    subst h
    simp
  | .ex b :: ms, i + 1, md, h, u => by
    simp only [noOw, List.getElem?_cons_succ] at h ⊢
    exact noOw_get h u
  | .ow :: ms, i + 1, md, h, u => by
    simp only [noOw, List.getElem?_cons_succ] at h ⊢
    exact noOw_get h u
  | .fz :: ms, i + 1, md, h, u => by
    simp only [noOw, List.getElem?_cons_succ] at h ⊢
    exact noOw_get h u
  | .un :: ms, i + 1, md, h, u => by
    simp only [noOw, List.getElem?_cons_succ] at h ⊢
    exact noOw_get h u
/-- a new ground; slot i forgotten -/
theorem SR.newground {H0 H : Hp} {O0 O : AS} {M : List Md} {env : Env'} {σ : L2.St} {a : Addr} (i : Nat) (r : SR H0 O0 M O env σ H) (hi : i < σ.length) : SR H O ((noOw M).set i (.ex a)) O (env.set i none) (σ.set i (some (.ref a))) H where
  same := Same.refl H
  sub0 := fun _ h => h
  tr := r.tr
  new := fun _ h => .inl h
  len := by simpa using r.len
  fz := fun j d hm he => by
    have ne : j ≠ i := fun z => by
      subst z
      obtain ⟨hlt, _⟩ := List.getElem?_eq_some_iff.mp he
      rw [List.getElem?_set_self (by simpa using hlt)] at he; cases he
    rw [List.getElem?_set_ne (Ne.symm ne)] at hm he ⊢
    exact r.fz j d (noOw_get hm (by simp)).1 he
  ow := fun j d hm he => by
    have ne : j ≠ i := fun z => by
      subst z
      obtain ⟨hlt, _⟩ := List.getElem?_eq_some_iff.mp he
      rw [List.getElem?_set_self (by simpa using hlt)] at he; cases he
    rw [List.getElem?_set_ne (Ne.symm ne)] at hm
    exact absurd rfl (noOw_get hm (by simp)).2
  dist := fun j l d e a hm _ he => by
    have ne : j ≠ i := fun z => by
      subst z
      obtain ⟨hlt, _⟩ := List.getElem?_eq_some_iff.mp he
      rw [List.getElem?_set_self (by simpa using hlt)] at he; cases he
    rw [List.getElem?_set_ne (Ne.symm ne)] at hm
    exact absurd rfl (noOw_get hm (by simp)).2
  exs := fun j b hm => by
    by_cases ne : j = i
    · subst ne
      rw [List.getElem?_set_self hi]
      obtain ⟨hlt, _⟩ := List.getElem?_eq_some_iff.mp hm
      rw [List.getElem?_set_self (by simpa using hlt)] at hm
      cases hm; rfl
    · rw [List.getElem?_set_ne (Ne.symm ne)] at hm ⊢
      exact r.exs j b (noOw_get hm (by simp)).1
theorem SR.drop {H0 H : Hp} {O0 O : AS} {M : List Md} {env : Env'} {σ : L2.St} (i : Nat) (v : Option V) (r : SR H0 O0 M O env σ H) : SR H0 O0 (M.set i .un) O (env.set i none) (σ.set i v) H where
  same := r.same
  sub0 := r.sub0
  tr := r.tr
  new := r.new
  len := by simpa using r.len
  fz := fun j d hm he => by
    have ne : j ≠ i := fun z => by
      subst z
      obtain ⟨hlt, _⟩ := List.getElem?_eq_some_iff.mp he
      rw [List.getElem?_set_self (by simpa using hlt)] at he; cases he
    rw [List.getElem?_set_ne (Ne.symm ne)] at hm he ⊢
    exact r.fz j d hm he
  ow := fun j d hm he => by
    have ne : j ≠ i := fun z => by
      subst z
      obtain ⟨hlt, _⟩ := List.getElem?_eq_some_iff.mp he
      rw [List.getElem?_set_self (by simpa using hlt)] at he; cases he
    rw [List.getElem?_set_ne (Ne.symm ne)] at hm he ⊢
    exact r.ow j d hm he
  dist := fun j l d e a h1 h2 h3 h4 h5 h6 => by
    have ne : ∀ {x : Nat} {y : D}, (env.set i none)[x]? = some (some y) → x ≠ i := fun {x y} he z => by
      subst z
      obtain ⟨hlt, _⟩ := List.getElem?_eq_some_iff.mp he
      rw [List.getElem?_set_self (by simpa using hlt)] at he; cases he
    have n1 := ne h3
    have n2 := ne h4
    rw [List.getElem?_set_ne (Ne.symm n1)] at h1 h3 h5
    rw [List.getElem?_set_ne (Ne.symm n2)] at h2 h4 h6
    exact r.dist j l d e a h1 h2 h3 h4 h5 h6
  exs := fun j a hm => by
    have ne : j ≠ i := fun z => by
      subst z
      obtain ⟨hlt, _⟩ := List.getElem?_eq_some_iff.mp hm
      rw [List.getElem?_set_self (by simpa using hlt)] at hm; cases hm
    rw [List.getElem?_set_ne (Ne.symm ne)] at hm ⊢
    exact r.exs j a hm
theorem RK.reground {k : Kd} {H0 H H' : Hp} {O0 O : AS} {M : List Md} {env : Env'} {σ : L2.St} {d : D} {v : V} (r : SR H0 O0 M O env σ H) (q : RK k H O H' d v) : RK k H0 O0 H' d v := by
  cases k with
  | pl => exact Rp.mono (Sub.less r.sub0) q
  | co =>
    have q : Rc H' O d v := q
    show Rc H' O0 d v
    cases q with
    | of q => exact .of (Rp.mono (Sub.less r.sub0) q)
    | rt q2 => exact .rt (Rt.mono (Sub.less r.sub0) rfl q2)
  | fr =>
    obtain ⟨a, e, n, q⟩ := q
    exact ⟨a, e, r.same.free n, q.mono (Sub.less fun b z => z.elim (fun z => .inl (r.sub0 b z)) .inr) rfl⟩
/-- what becomes of a suite's outcome, slot i emptied behind it -/
def suOut (i : Nat) : Out → Out
  | .nx e => .nx (e.set i none)
  | .bk e => .bk (e.set i none)
  | .ct e => .ct (e.set i none)
  | .exc _ _ _ => .err
  | x => x
def oTry (i : Nat) (h : Str → Option Bool) (o : Env' → Out) (su : Str → D → Env' → Out) : Env' → Out := fun env => match o env with
  | .exc c d e1 => match h c with
    | some true => if i < e1.length then suOut i (su c d (e1.set i none)) else .err
    | some false => .exc c d e1
    | none => .err
  | x => x
theorem ds_tryAs {i : Nat} {n x : Str} {cv : Value} {body suite : List Stmt} {b₀ : Stmt} {np pos' : Pos} {h : Str → Option Bool} {o : Env' → Out} {su : Str → D → Env' → Out} {M2 : List Md} (hstk : X.stack = X.env :: X.outer) (hf : X.env.frame = some X.env.locals) (hN : X.N.Nodup) (hi : X.N[i]? = some n) (hln : X.env.kindOf n = some .local)
    (hcN : Names X x cv) (tk : Takes X G.W) (hx : mle Mt L.Mx = true) (hh : ∀ cn b, h cn = some b → ∀ cls, G.mg cn = some cls → PySem.W.exmOne X.K cls cv = some b) (hM : mle (M2.set i .un) M' = true) (hMb : mle (L.Mb.set i .un) L.Mb = true)
    (hb : ∀ (W : WX) (pn : List (Addr × Obj)) (xe : Value → Shared → Prop), Takes (X.tr pn xe) W → PassesOwn (model X.prog X.w) X.A X.env xe → DSs (X.tr pn xe) ⟨W, G.mg, G.ex⟩ { L with Mx := Mt } M M' body o)
    (hsu : ∀ (cn : Str) (dat : D) (a : Addr) (oe : Obj) (cls : Value) (dd : Addr) (pn : List (Addr × Obj)), h cn = some true → G.mg cn = some cls → Zc cls (some dd) oe → (∃ vs, oe.data = .fields vs) → DSs (X.suite a ((a, oe) :: pn)) ⟨fun _ _ _ _ => False, G.mg, some (dd, dat)⟩ ⟨L.Mb, [], L.kr⟩ ((noOw Mt).set i (.ex a)) M2 (b₀ :: suite) (su cn dat)) :
    DS X G L M M' (.Try body [.ExceptHandler (some (.Name x np)) (some n) (b₀ :: suite) pos'] [] [] pos) (oTry i h o su) := by
  refine ps_imp (L2.ps_try_as (tb := fun W => tS ⟨W, G.mg, G.ex⟩ { L with Mx := Mt } M M' o)
    (ts := fun a cls d E σ H => ∃ (cn : Str) (dat : D) (dd : Addr), d = some dd ∧ h cn = some true ∧ G.mg cn = some cls ∧ tS ⟨fun _ _ _ _ => False, G.mg, some (dd, dat)⟩ ⟨L.Mb, [], L.kr⟩ ((noOw Mt).set i (.ex a)) M2 (su cn dat) E σ H)
    hstk hf hN hi hln hcN tk hb fun a oe cls d pn hz hv => ⟨fun pins s σ H D I ⟨cn, dat, dd, e, h1, h2, q⟩ => by subst e; exact (hsu cn dat a oe cls dd pn h1 h2 hz hv).run pins s σ H D I q⟩) fun E σ H hq => ?_
  obtain ⟨g, O, env, sr, q⟩ := tS_iff.mp hq
  refine tS_iff.mpr ⟨g, O, env, sr, ?_⟩
  unfold oTry at q
  cases ho : o env with
  | nx e => rw [ho] at q; exact q
  | rt d => rw [ho] at q; exact q
  | bk e => rw [ho] at q; exact q
  | ct e => rw [ho] at q; exact q
  | err => rw [ho] at q; exact q
  | exc cn dat e1 =>
    rw [ho] at q
    simp only at q
    intro σ' H' O' dd cls va sub sr' hmg hxd hrp
    cases hhc : h cn with
    | none => rw [hhc] at q; exact q.elim
    | some bb =>
      rw [hhc] at q
      cases bb with
      | false => exact ⟨false, hh cn _ hhc cls hmg, (fun z => nomatch z), fun _ => q σ' H' O' dd cls va sub (sr'.weak hx) hmg hxd hrp⟩
      | true =>
        try simp only at q
        by_cases hil' : i < e1.length
        case neg => rw [if_neg hil'] at q; exact q.elim
        rw [if_pos hil'] at q
        have hil : i < σ'.length := by rw [← sr'.len]; exact hil'
        refine ⟨true, hh cn _ hhc cls hmg, fun _ a ha => ⟨cn, dat, dd, rfl, hhc, hmg, ?_⟩, fun z => nomatch z⟩
        refine tS_iff.mpr ⟨⟨H', O', fun p hp => by cases hp; exact ⟨va, hxd, hrp⟩⟩, O', e1.set i none, sr'.newground i hil, ?_⟩
        have q := OutOk.sub sub q
        try simp only at q
        cases hs : su cn dat (e1.set i none) with
        | nx e2 =>
          rw [hs] at q
          exact fun σ2 H2 O2 s2 r2 => q _ H2 O2 s2 (((sr'.reground r2).drop i none).weak hM)
        | rt d =>
          rw [hs] at q
          exact fun H2 v s2 r2 => q H2 v (sr'.same.trans s2) (RK.reground sr' r2)
        | bk e2 =>
          rw [hs] at q
          exact fun σ2 H2 O2 s2 r2 => q _ H2 O2 s2 (((sr'.reground r2).drop i none).weak hMb)
        | ct e2 =>
          rw [hs] at q
          exact fun σ2 H2 O2 s2 r2 => q _ H2 O2 s2 (((sr'.reground r2).drop i none).weak hMb)
        | exc c d e => rw [hs] at q; exact q.elim
        | err => rw [hs] at q; exact q.elim
/-- e.at, e the caught error -/
theorem Rp.ground {H0 H : Hp} {O0 O : AS} {M : List Md} {env : Env'} {σ : L2.St} {d : D} {v : V} {g0 : Hp} {o0 : AS} (r : SR g0 o0 M O env σ H) (q : Rp g0 o0 d v) : Rp H O d v :=
  q.mono ⟨fun a u ha hr => ⟨rd_same r.same hr, fun z => by
    rcases r.new a z with w | w
    · exact ha w
    · exact rd_ne_none hr w⟩, fun a o u _ e => r.same _ _ e⟩
theorem de_at {a C dd : Addr} {oe : Obj} {cls : Value} {pn : List (Addr × Obj)} {i : Nat} {dat : D} {ex : Expr} {mg : Str → Option Value} {W : WX} (Xf : XfC X.K C) (hno : PySem.W.findIn X.K (.ref C) "at" = some none) (hz : Zc cls (some dd) oe) (hf : ∃ vs, oe.data = .fields vs) (hcl : cls = .ref C)
    (he : PE (X.suite a ((a, oe) :: pn)) ex (tVar i)) (hm : M[i]? = some (.ex a)) (hb : attributeBase ex "at" X.env (eval ex X.env) = eval ex X.env := by rfl) :
    DE (X.suite a ((a, oe) :: pn)) ⟨W, mg, some (dd, dat)⟩ M .pl (.Attribute ex "at" pos) (mC dat) := pe_imp (pe_xf Xf hno hz hf he hb) fun σ H Q ⟨g, O, env, sr, q⟩ => by
  obtain ⟨va, hxd, hrp⟩ := g.hex _ rfl
  refine ⟨_, sr.exs i a hm, rfl, hcl, dd, _, va, rfl, sr.same _ _ hxd, by simp [List.lookup], q H _ (Same.refl H) (Rp.ground (H0 := H) (O0 := O) sr hrp)⟩
end
end DL

namespace DL
open PySem PySem.Spec L2
/-- what the written part says of an error's class, for a suite -/
structure ExK (K : PySem.W.Frag) (C : Addr) : Prop where
  cl : (PySem.W.clsIn K C).isSome = true
  ga : PySem.W.findIn K (.ref C) "__getattribute__" = some (some (.builtin "BaseException.__getattribute__"))
  gg : PySem.W.findIn K (.ref C) "__getattr__" = some none
  ex : PySem.W.subIn K (.ref C) (.type "BaseException") = some true
  hd : PySem.W.hasDictIn K C = true
  ca : PySem.W.findIn K (.ref C) "__class__" = some (some (.builtin "object.__class__"))
  sp : PySem.W.specialIn K (.builtin "object.__class__") "__get__" = some (some (.builtin "getset_descriptor.__get__"))
  tk : PySem.W.takesIn K (.builtin "object.__class__") = some true
  mo : PySem.W.mroIn K C (.type "object") = some true
  na : PySem.W.findIn K (.ref C) "at" = some none
theorem ExK.xf {K : PySem.W.Frag} {C : Addr} (h : ExK K C) : XfC K C := ⟨h.ga, h.gg, h.ex, h.hd⟩
section
variable {X : Cx} {M : List Md} {pos : Pos}
/-- isinstance(e, c), e the caught error -/
def rIsD (K : PySem.W.Frag) (C a dd : Addr) : List V → Hp → VK → Prop := fun xs H Q => ∃ (C2 : Addr) (b : Bool) (fs : List (Str × V)), xs = [.ref a, .ref C2] ∧ PySem.W.kitOne K (.ref C) (.ref C2) = some b ∧ H dd = some (.xd fs) ∧ Q (.bl b) H
theorem call_isD {a C dd : Addr} {oe : Obj} {pn : List (Addr × Obj)} (T : ExK X.K C) (hz : Zc (.ref C) (some dd) oe) (hf : ∃ vs, oe.data = .fields vs) : CallR (X.suite a ((a, oe) :: pn)) (.builtin "isinstance") (rIsD X.K C a dd) := by
  intro pins s σ H xs us Q I r h
  obtain ⟨C2, b, fs, rfl, e, hxd, q⟩ := h
  obtain ⟨u1, u2, rfl, r1, r2⟩ := vals2 r
  cases r1
  cases r2
  obtain ⟨hget, _⟩ := I.pin (a, oe) (List.mem_append_left _ List.mem_cons_self)
  have hx : ObjOk X.prog X.w H s.heap dd (.xd fs) := I.hok dd _ hxd
  obtain ⟨mA, hns, _⟩ := hx
  obtain ⟨od, _, _, ho, _⟩ := id hns
  have J : PySem.W.InstAt s.heap a oe C (some od) := by
    obtain ⟨vs, hv⟩ := hf
    refine ⟨hget, hz.1, ?_, ?_⟩
    · unfold PySem.W.notCls
      rw [hv] <;> rfl
    · rw [hz.2]; exact ho
  exact PySem.W.kia_one (PySem.W.kitx_exc (od := some od) T.cl T.ga T.gg T.ex T.ca T.sp T.tk T.mo) I.kIn J e (fun z => nomatch z) fun tk => ⟨.bl b, H, I.tok tk, rfl, q⟩
theorem de_isE {a C C2 dd : Addr} {oe : Obj} {pn : List (Addr × Obj)} {i : Nat} {dat : D} {cls : Value} {n x2 : Str} {mg : Str → Option Value} {W : WX} {p p2 p3 : Pos} {b : Bool} (T : ExK X.K C) (hz : Zc cls (some dd) oe) (hf : ∃ vs, oe.data = .fields vs) (hcl : cls = .ref C)
    (hk : PySem.W.kitOne X.K (.ref C) (.ref C2) = some b) (he : PE (X.suite a ((a, oe) :: pn)) (.Name n p2) (tVar i)) (hm : M[i]? = some (.ex a))
    (hg : Gl (X.suite a ((a, oe) :: pn)) "isinstance") (hmi : X.mg "isinstance" = none) (hg2 : Gl (X.suite a ((a, oe) :: pn)) x2) (hm2 : X.mg x2 = some (.ref C2))
    (hs : starEach [.Name n p2, .Name x2 p3] X.env = [(false, eval (.Name n p2) X.env), (false, eval (.Name x2 p3) X.env)] := by rfl) (hs2 : starEach [.Name x2 p3] X.env = [(false, eval (.Name x2 p3) X.env)] := by rfl) (hdb : (x2 == ("__debug__" : Str)) = false := by decide) :
    DE (X.suite a ((a, oe) :: pn)) ⟨W, mg, some (dd, dat)⟩ M .pl (.Call (.Name "isinstance" p) [.Name n p2, .Name x2 p3] [] pos) (mC (.bool b)) := by
  subst hcl
  have hp : PE (X.suite a ((a, oe) :: pn)) (.Name x2 p3) (tC (.ref C2)) := pe_glob hg2 hm2 rfl hdb
  refine pe_imp (pe_callB (call_isD T hz hf) hg hmi bt_isinstance (pa_cons he (pa_cons hp pa_nil hs2) (by show starEach [.Name n p2, .Name x2 p3] X.env = _; rw [hs]; show _ = _ :: starEach [.Name x2 p3] X.env; rw [hs2]) )
    (he := by show starEach [.Name n p2, .Name x2 p3] X.env = _; rw [hs]; show _ = _ :: starEach [.Name x2 p3] X.env; rw [hs2]) (hpl := by show (backTo pos (starEach [.Name x2 p3] X.env)).any _ = _; rw [hs2]; rfl)) fun σ H Q ⟨g, O, env, sr, q⟩ => ?_
  obtain ⟨va, hxd, hrp⟩ := g.hex _ rfl
  exact ⟨_, sr.exs i a hm, C2, b, _, rfl, hk, sr.same _ _ hxd, q H _ (Same.refl H) (.bl b)⟩
/-- which class an except clause takes -/
theorem exm_of {K : PySem.W.Frag} {C D : Addr} {b : Bool} (h1 : PySem.W.subIn K (.ref C) (.type "BaseException") = some true) (hd : PySem.W.hasDictIn K C = true) (ht : PySem.W.typeIn K (.ref C) = some (.type "type")) (h4 : PySem.W.subIn K (.ref D) (.ref C) = some b) :
    PySem.W.exmOne K (.ref D) (.ref C) = some b := PySem.W.exm_ref h1 hd ht h4
end
end DL

namespace DL
open PySem PySem.Spec L2
theorem hr66 {k : Nat} {A : Around} (hr : Room k A) : A.units + 66 < cLine := by have := hr.un; omega
/-! ### repr, where nothing is being shown -/
def reprOk (d : D) : Bool := PyData.canLay0 d && PyData.showable d && decide (d.depth ≤ 64) && decide (d.shown.length ≤ sizeLine)
def reprD : List D → Option D
  | [d] => if reprOk d = true then some (.str d.shown) else none
  | _ => none
section
variable {X : Cx} {G : Gd} {L : Lp} {M : List Md} {k : Kd} {e : Expr} {m : Env' → Res D} {ms : Env' → Res (List D)} {pos : Pos}
def rRepr (K : PySem.W.Frag) : List V → Hp → VK → Prop := fun xs H Q => ∃ (v : V) (d : D), xs = [v] ∧ Dp K H v d ∧ reprOk d = true ∧ Q (.str d.shown) H
theorem call_reprD (hg : X.A.guards = some []) (hu : X.A.units + 66 < cLine) : CallR X (.builtin "repr") (rRepr X.K) := by
  intro pins s σ H xs us Q I r h
  obtain ⟨v, d, rfl, hd, hk, q⟩ := h
  obtain ⟨u, rfl, ru⟩ := vals1 r
  unfold reprOk at hk
  simp only [Bool.and_eq_true, decide_eq_true_eq] at hk
  obtain ⟨⟨⟨h1, h2⟩, h3⟩, h4⟩ := hk
  cases hd with
  | non => cases ru; exact PySem.P.repr_of_none ⟨.str _, H, I.tok _, ⟨_, rfl⟩, q⟩
  | bl b => cases ru; exact PySem.P.repr_of_bool ⟨.str _, H, I.tok _, ⟨_, rfl⟩, q⟩
  | int i =>
    obtain ⟨t, rfl⟩ := ru
    exact PySem.P.repr_of_int (by simpa [PyData.showable] using h2) ⟨.str _, H, I.tok _, ⟨_, rfl⟩, q⟩
  | str x =>
    obtain ⟨t, rfl⟩ := ru
    exact PySem.P.repr_of_str ⟨.str _, H, I.tok _, ⟨_, rfl⟩, q⟩ h4
  | @lst a xs ds hs ha =>
    obtain ⟨as, rd⟩ := Dp.reads I (.list ds) (.ref a) u (.lst hs ha) ru
    cases ru
    exact PySem.repr_of_reads' rd h2 (PyData.noDict_hsm (PyData.hasDict_of_canLay _ h1)) hg (by omega) (fun _ _ e => e) (fun h' u tk hk => ⟨.str _, H, I.kept (t' := tk) hk, ⟨_, rfl⟩, q⟩) h4
  | @tup a xs ds hs ha =>
    obtain ⟨as, rd⟩ := Dp.reads I (.tuple ds) (.ref a) u (.tup hs ha) ru
    cases ru
    exact PySem.repr_of_reads' rd h2 (PyData.noDict_hsm (PyData.hasDict_of_canLay _ h1)) hg (by omega) (fun _ _ e => e) (fun h' u tk hk => ⟨.str _, H, I.kept (t' := tk) hk, ⟨_, rfl⟩, q⟩) h4
theorem cb_repr {K : PySem.W.Frag} : CB .pl .co (rRepr K) reprD := by
  intro H O vs ds d Q tr r hf q
  unfold reprD at hf
  split at hf
  · rename_i x
    by_cases hk : reprOk x = true
    · rw [if_pos hk] at hf
      cases hf
      obtain ⟨v, rfl, r1⟩ := RcA.one r
      have hk' := hk
      unfold reprOk at hk'
      simp only [Bool.and_eq_true] at hk'
      exact ⟨v, x, rfl, r1.dp hk'.1.1.1, hk, q H _ (Same.refl H) (.str _)⟩
    · rw [if_neg hk] at hf
      cases hf
  · cases hf
end

theorem kit_self {K : PySem.W.Frag} {C : Addr} : PySem.W.kitOne K (.ref C) (.ref C) = some true := by
  unfold PySem.W.kitOne
  simp
theorem kit_cls {K : PySem.W.Frag} {C D : Addr} {b : Bool} (hn : (Value.ref C == Value.ref D) = false) (ic : (PySem.W.clsIn K D).isSome = true) (ty : PySem.W.typeIn K (.ref D) = some (.type "type")) (h : PySem.W.subIn K (.ref C) (.ref D) = some b) : PySem.W.kitOne K (.ref C) (.ref D) = some b := by
  unfold PySem.W.kitOne PySem.W.kitCls
  rw [hn]
  simp [ic, ty, h]
theorem nolist_of {K : PySem.W.Frag} (h : (K.all fun p => !(p.2.cls == .type "list")) = true) {b : Addr} {ob : Obj} (e : K.lookup b = some ob) (z : ob.cls = .type "list") : False := by
  induction K with
  | nil => cases e
  | cons p K ih =>
    rw [List.all_cons, Bool.and_eq_true] at h
    obtain ⟨a, o⟩ := p
    rw [List.lookup_cons] at e
    split at e
    · cases e
      have h1 := h.1
      simp [z] at h1
    · exact ih h.2 e
/-! ### the law's own call -/
theorem rpA_ints (H : Hp) (O : AS) : ∀ ns : List Int, RpA H O (ns.map .int) (ns.map V.int)
  | [] => .nil
  | n :: ns => .cons (.int n) (rpA_ints H O ns)
theorem attach_go {P : Program} {w : World} {K : PySem.W.Frag} {mg mb : Str → Option Value} {fa a : Addr} {fd : FuncData} {qual : Str} {st : Stmt} {N : List Str} {s₁ : Shared} {vs : List Value} {ns : List Int} {M1 : List Md} {o : Env' → Out}
    (nolist : ∀ b ob, K.lookup b = some ob → ob.cls ≠ .type "list") (F : Fun K "law" qual st fa fd) (S : FnScope N ["script"] (defScope st)) (hN : 1 ≤ N.length)
    (hbind : ∀ (s : Shared) (u : Value), BindsTo s fd ⟨[u], []⟩ [("script", u)])
    (hbody : ∀ (base : Heap) (cdv : Value) (s : Shared) (H : Hp), K.In base → base.Ns mainGlobals mg →
      DSs (cxOf (L2.CX P w) P w K mg base N qual (defScope st) fa cdv callerA [] s H fun _ _ _ => False) ⟨wE fun _ _ _ => False, mg, none⟩ ⟨[], [], .pl⟩ (mode0 N.length 1) M1 (defBody st) o)
    (hval : runD .pl N.length o [.list (ns.map .int)] = .ok (.bool true))
    (KX : K.In s₁.heap) (hns : s₁.heap.Ns mainGlobals mg) (hb : s₁.heap.Ns builtinsNs mb) (hbb : ∀ x : Str, x ≠ "__name__" → mb x = bootBuiltins x) (hlim : s₁.heap.NoLimit) (hg : s₁.gens = #[])
    (ha : s₁.heap.get? a = some { cls := .type "list", data := .seq vs.toArray }) (hi : PyProof.Rows.IntsAre vs ns) (hl : ns.length ≤ sizeLine) :
    codeAny (model P w) callerA (.call (.ref fa) ⟨[.ref a], []⟩) (fun r s' => r = .ok (.ret (.bool true)) ∧ OldK s₁.heap s'.heap ∧ s'.os = s₁.os ∧ PyProof.Rows.AllBare s'.gens) s₁ := by
  -- what is tracked: the script alone, locked
  let so : Obj := { cls := .type "list", data := .seq vs.toArray }
  let H : Hp := fun b => if b = a then some (.frz so (.lst (ns.map V.int))) else none
  have hHa : H a = some (.frz so (.lst (ns.map V.int))) := if_pos rfl
  have hHo : ∀ b, b ≠ a → H b = none := fun b hb => if_neg hb
  have hKa : K.lookup a = none := by
    cases e : K.lookup a with
    | none => rfl
    | some ob =>
      have e1 := KX a ob e
      rw [ha] at e1
      have e2 : so = ob := Option.some.inj e1
      exact absurd (by rw [← e2]) (nolist a ob e)
  have hrv : Vals (ns.map V.int) vs := L2.vals_ints hi
  have hz : (ns.map V.int).length ≤ sizeLine := by rw [List.length_map]; exact hl
  have hok : HOk P w H s₁.heap := fun b u e => by
    by_cases hb : b = a
    · subst hb
      rw [hHa] at e
      cases e
      exact ⟨ha, hz, vs, _, hrv, ha⟩
    · rw [hHo b hb] at e
      cases e
  -- the ground: all else
  have toB : ∀ {b : Addr} {ob : Obj}, b ≠ a → s₁.heap.get? b = some ob → (hidT s₁.heap H).get? b = some ob := fun {b ob} hb e => hidT_get e (hHo b hb)
  have dictB : ∀ {b : Addr} {mm : Str → Option Value}, s₁.heap.Ns b mm → (hidT s₁.heap H).Ns b mm := fun {b mm} ⟨ob, es, ep, e, hd, rest⟩ => by
    refine ⟨ob, es, ep, toB (fun hb => ?_) e, hd, rest⟩
    subst hb
    rw [ha] at e
    have e2 : so = ob := Option.some.inj e
    subst e2
    cases hd
  have hKb : K.In (hidT s₁.heap H) := fun b ob e => toB (fun hb => by subst hb; rw [hKa] at e; cases e) (KX b ob e)
  have hM : L2.Mod K mg (hidT s₁.heap H) := ⟨hKb, dictB hns, ⟨mb, dictB hb, hbb⟩, by
    obtain ⟨mc, l1, l2⟩ := hlim
    exact ⟨mc, dictB l1, l2⟩⟩
  have e0 : Env0 P w K mg (hidT s₁.heap H) callerA [] s₁ H :=
    { frames := rfl, mod := hM, bs := fun b ob e => of_hidT e, bsz := Nat.le_of_eq (hidT_size _ _), funs := trivial, frf := (fun b z => nomatch z), hok := hok, bare := .of_eq hg }
  obtain ⟨oc, od, kV, doc, pm, an, cdv, ct, osl, rfl, lk, hcode⟩ := F.ex
  have kinds : ∀ y ∈ [("script" : Str)].zip [Value.ref a], (defScope st).names.lookup y.1 = some .local ∨ ((defScope st).names.lookup y.1 = some .cell ∧ ((cellsFrom (s₁.heap.objs.size + 1) (defScope st).names []).lookup y.1).isSome = true) := fun y hy => by
    have hy1 : y.1 ∈ [("script" : Str)] := (List.of_mem_zip (a := y.1) (b := y.2) hy).1
    exact (S.par y.1 hy1).imp id fun q => ⟨q, PySem.W.cellsFrom_some _ _ _ (.inl q)⟩
  refine codeAny_call_function (by decide) (KX _ _ lk) rfl S.co S.gen rfl (PySem.W.codeRec_of KX hcode) (hbind s₁ (.ref a) _ _ _ _ ?_)
  refine wpAny_newFunctionEnv_cells S.kind kinds fun env henv s1 inc => ?_
  subst henv
  refine ⟨hlim.keeps inc.toInCall.keep, codeAny_func ?_⟩
  have I := inv_start (CX := L2.CX P w) (E := fun _ _ _ => False) S (rfl : callerA.handled = none) e0 (rfl : [V.ref a].length = 1) (.cons rfl .nil) inc
  have rs : RpA H (fun _ => False) [.list (ns.map .int)] [.ref a] := by
    exact .cons (.lst (fun z => z) (.inr ⟨so, hHa⟩) (rpA_ints _ _ ns)) .nil
  have hq := start_ok (mg := mg) (N := N) (np := 1) (kr := .pl) (M1 := M1) (o := o) (vs := [.ref a]) (H := H) (Q := fun v _ => v = .bl true) (E := fun _ _ _ => False) (O := fun _ => False) rfl (fun _ z => nomatch z) rs (by rw [hval]; exact fun H' v _ r => by cases (show Rp H' _ (.bool true) v from r); rfl)
  refine wpAny_mono ((hbody _ cdv s₁ H hKb (dictB hns)).run [] s1 _ H _ I hq) (fun fl s' hs => ?_) fun e s' hs => ?_
  · have fin : ∀ {σ' : L2.St} {H' : Hp}, Inv (cxOf (L2.CX P w) P w K mg (hidT s₁.heap H) N qual (defScope st) fa cdv callerA [] s₁ H fun _ _ _ => False) [] σ' H' s' → OldK s₁.heap s'.heap ∧ s'.os = s₁.os ∧ PyProof.Rows.AllBare s'.gens := fun {σ' H'} J => by
      refine ⟨OldK.of_keep fun b ob e => ?_, J.os, J.bare⟩
      by_cases hb : b = a
      · subst hb
        obtain ⟨e1, _⟩ := hok b _ hHa
        obtain ⟨e2, _⟩ := J.hok b _ (J.base.frzs b _ _ hHa)
        rw [e] at e1
        cases e1
        exact e2
      · exact J.base.keep b ob e (hHo b hb) (fun z => nomatch z) fun z => nomatch z
    cases fl with
    | ret u =>
      obtain ⟨v, σ', H', J, rv, hv⟩ := hs
      have hv : v = .bl true := hv
      subst hv
      cases rv
      exact ⟨rfl, fin J⟩
    | next =>
      obtain ⟨σ', H', J, hv⟩ := hs
      exact nomatch (show V.non = V.bl true from hv)
    | brk => obtain ⟨_, _, _, hv⟩ := hs; exact hv.elim
    | cont => obtain ⟨_, _, _, hv⟩ := hs; exact hv.elim
  · have noexc : ∀ {e' : Value} {s'' : Shared}, ¬ L2.CX P w [] H s₁ (fun _ _ _ => False) e' s'' := fun {e' s''} z => by
      obtain ⟨_, _, _, _, _, _, _, _, _, _, _, _, q⟩ := z
      exact q
    exact wpAny_mono hs (fun _ _ z => (noexc z).elim) fun _ _ z => (noexc z).elim
/-- the goal that k_head leaves, for the law's own def -/
theorem walkG {l : PySem.W.OpenLaw} {n : Nat} {q : Program} {loose : List Str} {XP : (Str → Option Value) → Heap → Prop} {YP : World → Heap → Prop} {d : DefRec} {K : Params → PySem.W.Frag} {qual : Str} {st : Stmt} {N : List Str} {M1 : List Md} {o : Env' → Out}
    (hn : l.most = some n) (hn2 : n ≤ sizeLine) (hdf : d.params.defaults = []) (hY : ∀ (w : World) (h : Heap), YP w h → (K w.params).In h) (S : FnScope N ["script"] (defScope st)) (hN : 1 ≤ N.length)
    (F : ∀ (w : World) (mg : Str → Option Value) (fa : Addr) (h : Heap), (K w.params).In h → h.Ns mainGlobals mg → mg d.name = some (.ref fa) →
      (∀ b ob, (K w.params).lookup b = some ob → ob.cls ≠ .type "list") ∧ ∃ fd : FuncData, Fun (K w.params) "law" qual st fa fd ∧ (∀ (s : Shared) (u : Value), BindsTo s fd ⟨[u], []⟩ [("script", u)]) ∧
        ∀ (base : Heap) (cdv : Value) (s : Shared) (H : Hp), (K w.params).In base → base.Ns mainGlobals mg →
          DSs (cxOf (L2.CX l.prog w) l.prog w (K w.params) mg base N qual (defScope st) fa cdv callerA [] s H fun _ _ _ => False) ⟨wE fun _ _ _ => False, mg, none⟩ ⟨[], [], .pl⟩ (mode0 N.length 1) M1 (defBody st) o)
    (hval : ∀ ns : List Int, ns.length ≤ n → runD .pl N.length o [.list (ns.map .int)] = .ok (.bool true)) :
    PySem.W.WalkO q loose XP YP l.row.toRowW d [] (fun f vs => PySem.call f vs) := by
  refine Att.attach_call hn hdf fun w s₀ s₁ mg mb fa ob pm cd doc a vs ns G Y _ _ _ hmg hobj hints hlen hg => ?_
  have KX := hY w _ Y
  obtain ⟨nolist, fd, F1, hb, body⟩ := F w mg fa _ KX G.T.g hmg
  exact attach_go nolist F1 S hN hb body (hval ns hlen) KX G.T.g G.T.b G.T.builtins G.T.nolimit hg hobj hints (Nat.le_trans hlen hn2)
end DL

namespace DL
open PySem PySem.Spec L2 PyProof.Rows
section
variable {X : Cx} {G : Gd} {L : Lp} {M : List Md} {k ka kb kc kd : Kd} {a b c d e : Expr} {m ma mb mc md : Env' → Res D} {pos : Pos}
/-! ### a op b op' c op'' d -/
def tChain3 (r r' r'' : R2) (ta tb tc td : TE) : TE := fun σ H Q => ta σ H fun x H1 => tb σ H1 fun y H2 => r x y H2 fun z H3 => ∃ k, z = .bl k ∧
  (if k = true then tc σ H3 fun w H4 => r' y w H4 fun z' H5 => ∃ k', z' = .bl k' ∧ (if k' = true then td σ H5 fun u H6 => r'' w u H6 Q else Q (.bl false) H5) else Q (.bl false) H3)
theorem pe_chain3 {op op' op'' : CmpOp} {r r' r'' : R2} {ta tb tc td : TE} (ho : OpR X (compareOp op) r) (ho' : OpR X (compareOp op') r') (ho'' : OpR X (compareOp op'') r'') (ha : PE X a ta) (hb : PE X b tb) (hc : PE X c tc) (hd : PE X d td)
    (hm : lastMarks [op, op', op''] [b, c, d] = false := by with_unfolding_all rfl) : PE X (.Compare a [op, op', op''] [b, c, d] pos) (tChain3 r r' r'' ta tb tc td) := by
  refine ⟨fun pins s σ H Q I h => ?_⟩
  refine Compare_chain (thn (ha.run pins s σ H _ I h) fun v s1 ⟨x, H1, I1, r1, q1⟩ => chain_link (thn (hb.run pins s1 σ H1 _ I1 q1) fun u s2 ⟨y, H2, I2, r2, q2⟩ =>
    thn (ho pins s2 σ H2 x y v u _ I2 r1 r2 q2) fun t s3 ⟨z, H3, I3, r3, k, e, q3⟩ => ?_)) hm
  subst e
  cases r3
  refine wpAny_truthy_bool ?_
  cases k with
  | false => exact ite_ff ⟨.bl false, H3, I3, rfl, q3⟩
  | true =>
    refine ite_tt (chain_link (thn (hc.run pins s3 σ H3 _ I3 q3) fun w' s4 ⟨z', H4, I4, r4, q4⟩ => thn (ho' pins s4 σ H4 y z' u w' _ I4 r2 r4 q4) fun t' s5 ⟨z2, H5, I5, r5, k', e', q5⟩ => ?_))
    subst e'
    cases r5
    refine wpAny_truthy_bool ?_
    cases k' with
    | false => exact ite_ff ⟨.bl false, H5, I5, rfl, q5⟩
    | true => exact ite_tt (chain_last (thn (hd.run pins s5 σ H5 _ I5 q5) fun w2 s6 ⟨z6, H6, I6, r6, q6⟩ => ho'' pins s6 σ H6 z' z6 w' w2 Q I6 r4 r6 q6))
def mChain3 (f f' f'' : D → D → Option D) (ma mb mc md : Env' → Res D) : Env' → Res D := fun env => (ma env).bind fun x => (mb env).bind fun y => (Res.of (f x y)).bind fun z => (asB z).bind fun k => if k = true then (mc env).bind fun w => (Res.of (f' y w)).bind fun z => (asB z).bind fun k => if k = true then (md env).bind fun u => Res.of (f'' w u) else .ok (.bool false) else .ok (.bool false)
theorem tChain3_ok {r r' r'' : R2} {f f' f'' : D → D → Option D} (hB : B2 .pl r f) (hB' : B2 .pl r' f') (hB'' : B2 .pl r'' f'') (σ : L2.St) (H : Hp) (Q : VK) (h : tE G M .pl (mChain3 f f' f'' ma mb mc md) σ H Q) : tChain3 r r' r'' (tE G M .co ma) (tE G M .co mb) (tE G M .co mc) (tE G M .co md) σ H Q := by
  obtain ⟨g, O, env, sr, q⟩ := h
  refine ⟨g, O, env, sr, ?_⟩
  unfold mChain3 at q
  cases ha : ma env with
  | err => rw [ha] at q; exact q
  | exc c d => rw [ha] at q; exact q
  | ok x =>
    rw [ha, Res.bind_ok] at q
    intro H1 v1 s1 r1
    refine ⟨g, O, env, sr.grow s1, ?_⟩
    cases hb : mb env with
    | err => rw [hb] at q; exact q
    | exc c d => rw [hb] at q; exact XW.grow s1 q
    | ok y =>
      rw [hb, Res.bind_ok] at q
      intro H2 v2 s2 r2
      have s12 := s1.trans s2
      cases hf : f x y with
      | none => rw [hf] at q; exact q.elim
      | some d =>
        rw [hf, Res.of_some, Res.bind_ok] at q
        refine hB (Trk.grow sr.tr s12) (Rc.same s2 r1) r2 hf fun H3 v s3 r => ?_
        cases d <;> simp only [asB, Res.bind_err] at q
        case bool t =>
          rw [Res.bind_ok] at q
          refine ⟨t, Rc.bl_inv (.of r), ?_⟩
          have s13 := s12.trans s3
          cases t with
          | false =>
            rw [if_neg Bool.false_ne_true] at q ⊢
            exact q H3 _ s13 (.bl _)
          | true =>
            rw [if_pos rfl] at q ⊢
            refine ⟨g, O, env, sr.grow s13, ?_⟩
            cases hc : mc env with
            | err => rw [hc] at q; exact q
            | exc c d => rw [hc] at q; exact XW.grow s13 q
            | ok w =>
              rw [hc, Res.bind_ok] at q
              intro H4 v4 s4 r4
              have s14 := s13.trans s4
              cases hf2 : f' y w with
              | none => rw [hf2] at q; exact q.elim
              | some d2 =>
                rw [hf2, Res.of_some, Res.bind_ok] at q
                refine hB' (Trk.grow sr.tr s14) (Rc.same (s3.trans s4) r2) r4 hf2 fun H5 v s5 r => ?_
                cases d2 <;> simp only [asB, Res.bind_err] at q
                case bool t =>
                  rw [Res.bind_ok] at q
                  refine ⟨t, Rc.bl_inv (.of r), ?_⟩
                  have s15 := s14.trans s5
                  cases t with
                  | false =>
                    rw [if_neg Bool.false_ne_true] at q ⊢
                    exact q H5 _ s15 (.bl _)
                  | true =>
                    rw [if_pos rfl] at q ⊢
                    refine ⟨g, O, env, sr.grow s15, ?_⟩
                    cases hd : md env with
                    | err => rw [hd] at q; exact q
                    | exc c d => rw [hd] at q; exact XW.grow s15 q
                    | ok u =>
                      rw [hd, Res.bind_ok] at q
                      intro H6 v6 s6 r6
                      cases hf3 : f'' w u with
                      | none => rw [hf3] at q; exact q.elim
                      | some d3 =>
                        rw [hf3] at q
                        exact hB'' (Trk.grow sr.tr (s15.trans s6)) (Rc.same (s5.trans s6) r4) r6 hf3 fun H' v s r => q H' v ((s15.trans s6).trans s) r
theorem de_chain3 {op op' op'' : CmpOp} {r r' r'' : R2} {f f' f'' : D → D → Option D} (ho : OpR X (compareOp op) r) (ho' : OpR X (compareOp op') r') (ho'' : OpR X (compareOp op'') r'') (hB : B2 .pl r f) (hB' : B2 .pl r' f') (hB'' : B2 .pl r'' f'') (ha : DE X G M ka a ma) (hb : DE X G M kb b mb) (hc : DE X G M kc c mc) (hd : DE X G M kd d md)
    (hm : lastMarks [op, op', op''] [b, c, d] = false := by with_unfolding_all rfl) : DE X G M .pl (.Compare a [op, op', op''] [b, c, d] pos) (mChain3 f f' f'' ma mb mc md) := pe_imp (pe_chain3 ho ho' ho'' ha.co hb.co hc.co hd.co hm) (tChain3_ok hB hB' hB'')
theorem pt_chain3 {op op' op'' : CmpOp} {r r' r'' : R2} {ta tb tc td : TE} (ho : OpR X (compareOp op) r) (ho' : OpR X (compareOp op') r') (ho'' : OpR X (compareOp op'') r'') (ha : PE X a ta) (hb : PE X b tb) (hc : PE X c tc) (hd : PE X d td)
    (hm : lastMarks [op, op', op''] [b, c, d] = false := by with_unfolding_all rfl) : PT X (.Compare a [op, op', op''] [b, c, d] pos) (tTest (tChain3 r r' r'' ta tb tc td)) := by
  refine ⟨fun pins s σ H Q I h => ?_⟩
  refine isTrue_chain (thn (ha.run pins s σ H _ I h) fun v s1 ⟨x, H1, I1, r1, q1⟩ => test_link (thn (hb.run pins s1 σ H1 _ I1 q1) fun u s2 ⟨y, H2, I2, r2, q2⟩ =>
    thn (ho pins s2 σ H2 x y v u _ I2 r1 r2 q2) fun t s3 ⟨z, H3, I3, r3, k, e, q3⟩ => ?_)) hm
  subst e
  cases r3
  refine wpAny_truthy_bool ?_
  cases k with
  | false =>
    obtain ⟨k, e, q⟩ := q3
    cases e
    exact ite_ff ⟨H3, I3, q⟩
  | true =>
    refine ite_tt (test_link (thn (hc.run pins s3 σ H3 _ I3 q3) fun w' s4 ⟨z', H4, I4, r4, q4⟩ => thn (ho' pins s4 σ H4 y z' u w' _ I4 r2 r4 q4) fun t' s5 ⟨z2, H5, I5, r5, k', e', q5⟩ => ?_))
    subst e'
    cases r5
    refine wpAny_truthy_bool ?_
    cases k' with
    | false =>
      obtain ⟨k, e, q⟩ := q5
      cases e
      exact ite_ff ⟨H5, I5, q⟩
    | true =>
      refine ite_tt (test_last (thn (hd.run pins s5 σ H5 _ I5 q5) fun w2 s6 ⟨z6, H6, I6, r6, q6⟩ => thn (ho'' pins s6 σ H6 z' z6 w' w2 _ I6 r4 r6 q6) fun t6 s7 ⟨z7, H7, I7, r7, k, e, q⟩ => ?_))
      subst e
      cases r7
      exact wpAny_truthy_bool ⟨H7, I7, q⟩
theorem dt_chain3 {op op' op'' : CmpOp} {r r' r'' : R2} {f f' f'' : D → D → Option D} (ho : OpR X (compareOp op) r) (ho' : OpR X (compareOp op') r') (ho'' : OpR X (compareOp op'') r'') (hB : B2 .pl r f) (hB' : B2 .pl r' f') (hB'' : B2 .pl r'' f'') (ha : DE X G M ka a ma) (hb : DE X G M kb b mb) (hc : DE X G M kc c mc) (hd : DE X G M kd d md)
    (hm : lastMarks [op, op', op''] [b, c, d] = false := by with_unfolding_all rfl) : DT X G M (.Compare a [op, op', op''] [b, c, d] pos) (mB (mChain3 f f' f'' ma mb mc md)) := pt_imp (pt_chain3 ho ho' ho'' ha.co hb.co hc.co hd.co hm) fun σ H Q h => by
  obtain ⟨g, O, env, sr, q⟩ := h
  refine tChain3_ok (G := G) (M := M) hB hB' hB'' σ H _ ⟨g, O, env, sr, ?_⟩
  unfold mB at q
  cases h : mChain3 f f' f'' ma mb mc md env with
  | err => rw [h] at q; exact q
  | exc c d => rw [h] at q; exact q
  | ok d =>
    rw [h, Res.bind_ok] at q
    intro H' v s r
    cases d <;> simp only [asB] at q
    case bool b => exact ⟨b, Rc.bl_inv (.of r), q H' s⟩
/-! ### 'abc'.index(x) -/
def sindexD : D → List D → Option D
  | .str a, [.str b] => match Builtin.Str.occurrences a b 0 a.length 1 with
    | i :: _ => some (.int (i : Nat))
    | [] => none
  | _, _ => none
theorem mb_sindex : MB .pl (fun x xs H Q => ∃ a b i rest, x = .str a ∧ xs = [.str b] ∧ Builtin.Str.occurrences a b 0 a.length 1 = i :: rest ∧ Q (.int (i : Nat)) H) sindexD := by
  intro H O x vs dx ds d Q tr rx rv hf q
  unfold sindexD at hf
  split at hf
  · rename_i a b
    split at hf
    · rename_i i rest e
      cases hf
      cases rx.str_inv
      obtain ⟨v, rfl, r1⟩ := RcA.one rv
      cases r1.str_inv
      exact ⟨a, b, i, rest, rfl, rfl, e, q H _ (Same.refl H) (.int _)⟩
    · cases hf
  · cases hf
theorem de_sindex {o arg : Expr} {apos : Pos} {mo m : Env' → Res D} (ho : DE X G M ka o mo) (he : DE X G M kb arg m) (hs : starEach [arg] X.env = [(false, eval arg X.env)] := by rfl) (hbase : attributeBase o "index" X.env (eval o X.env) = eval o X.env := by rfl) (hline : (apos.endLine == pos.line) = true := by rfl)
    (hfew : ((backTo pos (starEach [arg] X.env)).all (fun x => !x.1) && (backToKw pos (keywordEach [] X.env)).all (fun x => x.1.isSome)
      && decide ([arg].length + ([] : List Keyword).length + (if ([] : List Keyword).isEmpty then 0 else 1) < 30)) = true := by rfl) :
    DE X G M .pl (.Call (.Attribute o "index" apos) [arg] [] pos) (mM1 isStrD sindexD mo (aCons m aNil)) :=
  pe_imp (pe_bm PySem.F.plainAttrs_str PySem.F.slot_str_index PySem.F.type_str_index mt_sindex ho.co (da_consC he da_nil hs) hbase hfew hline hs) (tM1_ok ty_str mb_sindex)
end
end DL

namespace DL
open PySem PySem.Spec L2 PyProof.Rows
theorem turnLong {P : Program} {w : World} {K : PySem.W.Frag} {tg : Expr} (z : Addr) (lo : Int) (n : Nat) : Turn P w K tg (Itr lo n) [z] z (fun i h => IsLongIter h z (lo + (i : Nat) * 1) ((n : Int) - (i : Nat)) 1) where
  mem := List.mem_singleton.mpr rfl
  obj := fun i h u b hb => by
    cases List.mem_singleton.mp hb
    exact ⟨_, u, fun v q => by cases (show Data.fields _ = Data.cell v from q)⟩
  keep := fun i h h' u k => k z (List.mem_singleton.mpr rfl) _ u
  item := by
    intro X eP ew eK hc i pins s σ H E I hf u hg
    subst eP ew eK
    obtain ⟨a0, a1, a2, a3, a4, a5⟩ := hf z (List.mem_singleton.mpr rfl)
    have V := Walks.longrange (prog := X.prog) (w := X.w) (I.ok.hd hc) z lo 1 n
    refine V.item i s _ _ hg u fun v h' tk hv u' kk => ?_
    obtain ⟨t, rfl⟩ := hv
    have I' : Inv X pins σ H { s with heap := h', toks := tk } := I.turned (fun b o hb e => kk b o (by simpa using hb) e) a0 a1 a3 a4 a5
    refine ⟨_, rfl, go_of (s := { s with heap := h', toks := tk }) (n := "longrange_iterator") u' rfl rfl (by decide) ⟨.int (lo + i), H, I', ⟨t, by rw [Int.mul_one]⟩, ⟨rfl, rfl⟩, u', fun b hb => (hf b hb).1⟩⟩
  done := by
    intro X eP ew eK hc i pins s σ H E I hf u hg
    subst eP ew eK
    obtain ⟨a0, a1, a2, a3, a4, a5⟩ := hf z (List.mem_singleton.mpr rfl)
    exact wpAny_pyNext_long_end (I.ok.hd hc) u (by have : n ≤ i := hg; omega) fun h' eb => ⟨rfl, I.turned (t' := s.toks) (fun b o hb e => eb b o hb e) a0 a1 a3 a4 a5⟩
  self := fun _ _ _ _ _ u h => wpAny_pyIter_longiter u h
section
variable {X : Cx} {tg : Expr}
/-- a range of any ints, walked -/
theorem rangeAny {pins : List (Addr × Obj)} {σ : L2.St} {H : Hp} {s : Shared} {R : It → Hp → Prop} {E : Value → Shared → Prop} {lo hi : Int} {t u v : Tok} {tk : Nat} (I : Inv X pins σ H s)
    (q : R (Itr lo (hi - lo).toNat) H) : wpAny (model X.prog X.w) X.A (pyIter (.ref s.heap.objs.size)) (PIE X pins σ tg R) E { s with heap := s.heap.push { cls := .type "range", data := .fields #[.int lo t, .int hi u, .int 1 v] }, toks := tk } := by
  have rs : (((hi - lo).toNat : Nat) : Int) = Builtin.Range.rangeSize lo hi 1 := by rw [rangeSize_one]; split <;> omega
  have I' : Inv X pins σ H { s with heap := s.heap.push { cls := .type "range", data := .fields #[.int lo t, .int hi u, .int 1 v] }, toks := tk } := I.kept fun b o e => Heap.get?_push_of_some _ e
  have e1 : lo + ((0 : Nat) : Int) * 1 = lo := by rw [Int.mul_one]; exact Int.add_zero lo
  have e2 : (((hi - lo).toNat : Nat) : Int) - ((0 : Nat) : Int) = Builtin.Range.rangeSize lo hi 1 := by rw [← rs]; exact Int.sub_zero _
  by_cases hs : Builtin.Range.small lo hi 1 = true
  · refine wpAny_pyIter_range (IsRange.new ..) hs ?_
    refine ⟨_, [_], _, _, H, rfl, I'.kept (t' := tk) fun b o e => Heap.get?_push_of_some _ e, turn_range _ lo (hi - lo).toNat, ?_, fun b hb => ?_, q⟩
    · show IsRangeIter _ _ (lo + ((0 : Nat) : Int) * 1) ((((hi - lo).toNat : Nat) : Int) - ((0 : Nat) : Int)) 1
      rw [e1, e2]
      exact Heap.get?_push_size _ rfl
    · cases List.mem_singleton.mp hb
      exact I'.fpOk (Nat.le_refl _) (I'.hok.fresh (Nat.le_refl _))
  · refine wpAny_pyIter_longrange (IsRange.new ..) (by simpa using hs) ?_
    refine ⟨_, [_], _, _, H, rfl, I'.kept (t' := tk) fun b o e => Heap.get?_push_of_some _ e, turnLong _ lo (hi - lo).toNat, ?_, fun b hb => ?_, q⟩
    · show IsLongIter _ _ (lo + ((0 : Nat) : Int) * 1) ((((hi - lo).toNat : Nat) : Int) - ((0 : Nat) : Int)) 1
      rw [e1, e2]
      exact Heap.get?_push_size _ rfl
    · cases List.mem_singleton.mp hb
      exact I'.fpOk (Nat.le_refl _) (I'.hok.fresh (Nat.le_refl _))
def iRngG (ta : TA) : TI := fun σ H R => ta σ H fun vs H1 => ∃ i j : Int, vs = [.int i, .int j] ∧ R (Itr i (j - i).toNat) H1
theorem pi_rangeG {a b : Expr} {ta : TA} {p pos : Pos} (hg : Gl X "range") (hm : X.mg "range" = none) (ha : PA X [a, b] ta) (hs : starEach [a, b] X.env = [(false, eval a X.env), (false, eval b X.env)] := by rfl) (hs2 : starEach [b] X.env = [(false, eval b X.env)] := by rfl) :
    PI X tg (.Call (.Name "range" p) [a, b] [] pos) (iRngG ta) := by
  refine ⟨fun ps s σ H R J h => ?_⟩
  refine Call_ (ld_blt J hg hm boot_range (callWith_type1 (thn (ha.run pos ps s σ H _ J h) fun us s1 ⟨vs, H1, J1, r1, q1⟩ => ?_) (by rw [hs, hs2]) (by rw [hs2]; rfl)))
  obtain ⟨i, j, rfl, q⟩ := q1
  cases r1 with
  | cons ra rr =>
    cases rr with
    | cons rb rr =>
      cases rr
      obtain ⟨t, rfl⟩ := ra
      obtain ⟨t', rfl⟩ := rb
      exact call_range_2 (rangeAny J1 q)
def rangeG : List D → Res (List D)
  | [.int i, .int j] => .ok (rng i (j - i).toNat)
  | _ => .err
def iRangeG (ms : Env' → Res (List D)) : Env' → Res (List D) := fun env => (ms env).bind rangeG
variable {G : Gd} {M : List Md} {ka kb : Kd} {a b : Expr} {ma mb : Env' → Res D} {pos : Pos}
theorem di_rangeG {p : Pos} (hg : Gl X "range") (hm : X.mg "range" = none) (ha : DE X G M ka a ma) (hb : DE X G M kb b mb) (hs : starEach [a, b] X.env = [(false, eval a X.env), (false, eval b X.env)] := by rfl) (hs2 : starEach [b] X.env = [(false, eval b X.env)] := by rfl) : DI X G M tg (.Call (.Name "range" p) [a, b] [] pos) (iRangeG (aCons ma (aCons mb aNil))) :=
  pi_imp (pi_rangeG hg hm (da_consC (G := G) (M := M) ha (da_consC hb da_nil hs2) (by rw [hs, hs2])) hs hs2) fun σ H R ⟨g, O, env, sr, q⟩ => by
    refine ⟨g, O, env, sr, ?_⟩
    unfold iRangeG at q
    cases h : aCons ma (aCons mb aNil) env with
    | err => rw [h] at q; exact q
    | exc c d => rw [h] at q; exact q
    | ok ds =>
      rw [h, Res.bind_ok] at q
      have hl : ∃ d d2, ds = [d, d2] := by
        unfold aCons aNil at h
        cases h2 : ma env with
        | ok d =>
          cases h3 : mb env with
          | ok d2 => rw [h2, h3] at h; cases h; exact ⟨d, d2, rfl⟩
          | exc c d => rw [h2, h3] at h; cases h
          | err => rw [h2, h3] at h; cases h
        | exc c d => rw [h2] at h; cases h
        | err => rw [h2] at h; cases h
      obtain ⟨d, d2, rfl⟩ := hl
      intro H1 vs s r
      obtain ⟨v, w, rfl, r1, r2⟩ := RcA.two r
      cases d <;> try exact q.elim
      cases d2 <;> try exact q.elim
      case int.int i j =>
        cases r1.int_inv; cases r2.int_inv
        exact ⟨i, j, rfl, q _ _ s itOk_range⟩
end
end DL

namespace DL
open PySem PySem.Spec L2

/-! ### loops over data -/
/-- how a loop ends ahead of its last turn -/
def Out.stops : Out → Prop
  | .nx _ => False
  | .ct _ => False
  | .bk _ => False
  | _ => True
theorem loop_gen {f : D → Env' → Option Env'} {body : Env' → Out} (P : Nat → Env' → Prop) (Q : Out → Prop) : ∀ (ds : List D) (i0 : Nat) (env : Env'),
    (∀ i d e, ds[i]? = some d → P (i0 + i) e → ∃ e1, f d e = some e1 ∧ ((∃ e2, body e1 = .nx e2 ∧ P (i0 + i + 1) e2) ∨ ((body e1).stops ∧ Q (body e1)))) → P i0 env →
    (∃ e, loop f body ds env = .nx e ∧ P (i0 + ds.length) e) ∨ Q (loop f body ds env)
  | [], i0, env, _, h => .inl ⟨env, rfl, h⟩
  | d :: ds, i0, env, hs, h => by
    obtain ⟨e1, h1, h2⟩ := hs 0 d env rfl h
    unfold loop
    rw [h1]
    simp only
    rcases h2 with ⟨e2, h2, h3⟩ | ⟨h2, h3⟩
    · rw [h2]
      simp only
      have := loop_gen P Q ds (i0 + 1) e2 (fun i d e hd he => by
        have := hs (i + 1) d e (by simpa using hd) (by rw [show i0 + (i + 1) = i0 + 1 + i by omega]; exact he)
        rw [show i0 + (i + 1) + 1 = i0 + 1 + i + 1 by omega] at this
        exact this) h3
      rw [show i0 + 1 + ds.length = i0 + (d :: ds).length by simp; omega] at this
      exact this
    · refine .inr ?_
      cases hb : body e1 <;> rw [hb] at h2 h3 <;> first | exact h2.elim | exact h3
/-- a loop that goes on to its end -/
theorem loop_all {f : D → Env' → Option Env'} {body : Env' → Out} (P : Nat → Env' → Prop) {ds : List D} {env : Env'}
    (hs : ∀ i d e, ds[i]? = some d → P i e → ∃ e1 e2, f d e = some e1 ∧ body e1 = .nx e2 ∧ P (i + 1) e2) (h : P 0 env) : ∃ e, loop f body ds env = .nx e ∧ P ds.length e := by
  rcases loop_gen P (fun _ => False) ds 0 env (fun i d e hd he => by
    rw [Nat.zero_add] at he ⊢
    obtain ⟨e1, e2, h1, h2, h3⟩ := hs i d e hd he
    exact ⟨e1, h1, .inl ⟨e2, h2, h3⟩⟩) h with h | h
  · rw [Nat.zero_add] at h; exact h
  · exact h.elim
/-- a while with a measure -/
theorem wloop_all {nc : Env' → Res Bool} {body : Env' → Out} (P : Nat → Env' → Prop) (hs : ∀ n e, P n e → (nc e = .ok false) ∨ (nc e = .ok true ∧ ∃ e2 k, body e = .nx e2 ∧ k < n ∧ P k e2)) :
    ∀ (n fuel : Nat) (env : Env'), n < fuel → P n env → ∃ e k, wloop nc body fuel env = .nx e ∧ nc e = .ok false ∧ P k e ∧ k ≤ n := by
  intro n
  induction n using Nat.strongRecOn with
  | _ n ih =>
    intro fuel env hf h
    obtain ⟨fuel, rfl⟩ : ∃ m, fuel = m + 1 := ⟨fuel - 1, by omega⟩
    unfold wloop
    rcases hs n env h with h1 | ⟨h1, e2, k, h2, h3, h4⟩
    · rw [h1]
      simp only [exOut_ok, Bool.false_eq_true, if_false]
      exact ⟨env, n, rfl, h1, h, Nat.le_refl _⟩
    · rw [h1]
      simp only [exOut_ok, if_true, h2]
      obtain ⟨e, k', q1, q2, q3, q4⟩ := ih k h3 fuel e2 (by omega) h4
      exact ⟨e, k', q1, q2, q3, by omega⟩
/-- a search over 0 .. n - 1 -/
theorem loop_find {v n : Nat} {body : Env' → Out} {env : Env'} (p : Nat → Bool) (r : Nat → D) (hb : ∀ k, k < n → body (env.set v (some (.int (k : Int)))) = if p k = true then .rt (r k) else .nx (env.set v (some (.int (k : Int))))) :
    (∃ k, (List.range n).find? p = some k ∧ loop (gN v) body (rng 0 n) env = .rt (r k)) ∨ ((List.range n).find? p = none ∧ ∃ e, loop (gN v) body (rng 0 n) env = .nx e ∧ (e = env ∨ ∃ j, e = env.set v (some j))) := by
  have key : ∀ (ks : List Nat), (∀ k ∈ ks, k < n) → ∀ e, (e = env ∨ ∃ j, e = env.set v (some j)) →
      (∃ k, ks.find? p = some k ∧ loop (gN v) body (ks.map fun (i : Nat) => PyData.int (0 + (i : Int))) e = .rt (r k)) ∨ (ks.find? p = none ∧ ∃ e', loop (gN v) body (ks.map fun (i : Nat) => PyData.int (0 + (i : Int))) e = .nx e' ∧ (e' = env ∨ ∃ j, e' = env.set v (some j))) := by
    intro ks
    induction ks with
    | nil => intro _ e he; exact .inr ⟨rfl, e, rfl, he⟩
    | cons k ks ih =>
      intro hk e he
      have e1 : e.set v (some (.int (0 + (k : Int)))) = env.set v (some (.int (k : Int))) := by
        rw [Int.zero_add]
        rcases he with rfl | ⟨j, rfl⟩
        · rfl
        · rw [List.set_set]
      have e2 := hb k (hk k (by simp))
      simp only [List.map_cons, loop, gN]
      rw [e1, e2]
      by_cases hp : p k = true
      · rw [if_pos hp]
        exact .inl ⟨k, by simp [hp], rfl⟩
      · rw [if_neg hp]
        have hp' : p k = false := by simpa using hp
        rcases ih (fun q hq => hk q (by simp [hq])) _ (.inr ⟨_, rfl⟩) with ⟨q, h1, h2⟩ | ⟨h1, h2⟩
        · exact .inl ⟨q, by simp [hp', h1], h2⟩
        · refine .inr ⟨?_, h2⟩
          rw [List.find?_cons, hp']
          exact h1
  exact key (List.range n) (fun k h => by simpa using h) env (.inl rfl)
/-- a comprehension over one name -/
theorem lc_map {v : Nat} {m : Env' → Res D} {nc : Env' → Res Bool} {env : Env'} (p : D → Bool) (g : D → D) : ∀ {ds : List D}, (∀ d ∈ ds, nc (env.set v (some d)) = .ok (p d) ∧ (p d = true → m (env.set v (some d)) = .ok (g d))) →
    lcG (gN v) nc m ds env = .ok ((ds.filter p).map g)
  | [], _ => rfl
  | d :: ds, h => by
    obtain ⟨h1, h2⟩ := h d (by simp)
    have ih := lc_map p g (ds := ds) fun z hz => h z (by simp [hz])
    simp only [lcG, gN]
    rw [h1]
    simp only [noX, Res.bind_ok]
    cases hp : p d with
    | false => simp only [Bool.false_eq_true, if_false]; rw [ih, List.filter_cons, hp]; simp
    | true =>
      rw [h2 hp]
      simp only [if_true, noX, Res.bind_ok]
      rw [ih, List.filter_cons, hp]
      simp
theorem lc_all {v : Nat} {m : Env' → Res D} {env : Env'} (g : D → D) {ds : List D} (h : ∀ d ∈ ds, m (env.set v (some d)) = .ok (g d)) : lcG (gN v) bYes m ds env = .ok (ds.map g) := by
  have := lc_map (v := v) (m := m) (nc := bYes) (env := env) (fun _ => true) g (ds := ds) fun d hd => ⟨rfl, fun _ => h d hd⟩
  rw [List.filter_eq_self.mpr (fun _ _ => rfl)] at this
  exact this
/-! ### places -/
theorem ix_nat {ds : List D} {n : Nat} {d : D} (h : ds[n]? = some d) : ixD (.list ds) (.int (n : Int)) = some d := by
  have hn : n < ds.length := (List.getElem?_eq_some_iff.mp h).1
  have h2 : (n : Int) < ds.length := by omega
  simp [ixD, L2.atI, ixN, h2, h]
theorem ix_int {ds : List D} {i : Int} {n : Nat} {d : D} (hi : i = n) (h : ds[n]? = some d) : ixD (.list ds) (.int i) = some d := by rw [hi]; exact ix_nat h
theorem ix_tup {ds : List D} {n : Nat} {d : D} (h : ds[n]? = some d) : ixD (.tuple ds) (.int (n : Int)) = some d := by
  have hn : n < ds.length := (List.getElem?_eq_some_iff.mp h).1
  have h2 : (n : Int) < ds.length := by omega
  simp [ixD, L2.atI, ixN, h2, h]
def txS (xs : List Nat) : Str := ⟨xs.toArray⟩
theorem txS_length (xs : List Nat) : (txS xs).length = xs.length := by simp [txS, Str.length]
theorem txS_append (xs ys : List Nat) : txS xs ++ txS ys = txS (xs ++ ys) := by
  show Str.append _ _ = _
  simp [txS, Str.append]
theorem txS_inj {xs ys : List Nat} (h : txS xs = txS ys) : xs = ys := by
  have : xs.toArray = ys.toArray := by injection h
  simpa using this
theorem ix_str {xs : List Nat} {n c : Nat} (hz : xs.length ≤ sizeLine) (h : xs[n]? = some c) : ixD (.str (txS xs)) (.int (n : Int)) = some (.str (txS [c])) := by
  have hn : n < xs.length := (List.getElem?_eq_some_iff.mp h).1
  have h2 : (n : Int) < xs.length := by omega
  simp only [ixD, txS_length, hz, if_true]
  simp [txS, L2.atI, ixN, h2, h]
/-! ### int lists -/
theorem rng_get (lo : Int) (n i : Nat) : (rng lo n)[i]? = if i < n then some (.int (lo + i)) else none := by
  unfold rng
  by_cases h : i < n <;> simp [h]
end DL

namespace DL
open PySem PySem.Spec L2
/-! ### what the mirrors are at an environment -/
section
variable {env : Env'} {i n : Nat} {d : D} {m ma mb mc : Env' → Res D} {ms ms' : Env' → Res (List D)} {nb nc : Env' → Res Bool} {ml mh : Env' → Res (Option Int)} {o o1 o2 : Env' → Out} {f f' : D → D → Option D}
theorem ap_var : mVar i env = match env[i]? with
  | some (some d) => .ok d
  | _ => .err := rfl
theorem ap_c : mC d env = .ok d := rfl
theorem ap_m1 {g : D → Option D} : m1 g ma env = (ma env).bind fun x => Res.of (g x) := rfl
theorem ap_m2 : m2 f ma mb env = (ma env).bind fun x => (mb env).bind fun y => Res.of (f x y) := rfl
theorem ap_m3 {g : D → Option Int → Option Int → Option D} : m3 g ma ml mh env = (ma env).bind fun x => (ml env).bind fun l => (mh env).bind fun h => Res.of (g x l h) := rfl
theorem ap_part : mPart ma env = (ma env).bind fun d => match d with
  | .int i => .ok (some i)
  | _ => .err := rfl
theorem ap_nopart : mNoPart env = .ok none := rfl
theorem ap_if : mIf nc ma mb env = (nc env).bind fun b => if b = true then ma env else mb env := rfl
theorem ap_isN : mIsN ma env = (ma env).bind fun x => .ok (.bool (isND x)) := rfl
theorem ap_notN : mNotN ma env = (ma env).bind fun x => .ok (.bool (!isND x)) := rfl
theorem ap_list : mList ms env = (ms env).bind fun ds => if ds.length ≤ sizeLine then .ok (.list ds) else .err := rfl
theorem ap_tup : mTup ms env = (ms env).bind fun ds => if ds.length ≤ sizeLine then .ok (.tuple ds) else .err := rfl
theorem ap_nil : aNil env = .ok [] := rfl
theorem ap_cons : aCons m ms env = (m env).bind fun d => (ms env).bind fun ds => .ok (d :: ds) := rfl
theorem ap_cb {g : List D → Option D} : mCB g ms env = (ms env).bind fun ds => Res.of (g ds) := rfl
theorem ap_m1m {ok : D → Bool} {g : D → List D → Option D} : mM1 ok g ma ms env = (ma env).bind fun x => if ok x = true then (ms env).bind fun ds => Res.of (g x ds) else .err := rfl
theorem ap_chain : mChain f f' ma mb mc env = (ma env).bind fun x => (mb env).bind fun y => (Res.of (f x y)).bind fun z => (asB z).bind fun k => if k = true then (mc env).bind fun w => Res.of (f' y w) else .ok (.bool false) := rfl
theorem ap_isi {T : String} : mIsi T m env = (m env).bind fun x => Res.of (isiD T x) := rfl
theorem ap_mB : mB m env = (m env).bind asB := rfl
theorem ap_asB {b : Bool} : asB (.bool b) = .ok b := rfl
theorem ap_and : bAnd nb nc env = (nb env).bind fun b => if b = true then nc env else .ok false := rfl
theorem ap_or : bOr nb nc env = (nb env).bind fun b => if b = true then .ok true else nc env := rfl
theorem ap_not : bNot nb env = (nb env).bind fun b => .ok (!b) := rfl
theorem ap_yes : bYes env = .ok true := rfl
theorem ap_call {mf : List D → Res D} : mCall mf ms env = (ms env).bind mf := rfl
theorem ap_lc {mi : Env' → Res (List D)} {g : D → Env' → Option Env'} {vs : List Nat} : mLc mi g nc m vs env = (mi env).bind fun ds => (noX (lcG g nc m ds (wipeE env vs))).bind fun ys => if ys.length ≤ sizeLine then .ok (.list ys) else .err := rfl
theorem ap_noX {α : Type} {a : α} : noX (.ok a) = .ok a := rfl
theorem ap_iseq : iSeq m env = (m env).bind walkD := rfl
theorem ap_irange : iRange ms env = (ms env).bind rangeD := rfl
theorem ap_iown : iOwn m env = (m env).bind fun d => match d with
  | .list ds => .ok ds
  | _ => .err := rfl
/-- on to the next -/
def Out.th (x : Out) (o : Env' → Out) : Out := match x with
  | .nx e => o e
  | x => x
theorem ap_seq : oSeq o1 o2 env = (o1 env).th o2 := rfl
theorem th_nx : (Out.nx env).th o = o env := rfl
theorem th_rt : (Out.rt d).th o = .rt d := rfl
theorem th_exc {c : Str} : (Out.exc c d env).th o = .exc c d env := rfl
theorem ap_skip : oSkip env = .nx env := rfl
theorem ap_set : oSet i m env = exOut (m env) env fun d => .nx (env.set i (some d)) := rfl
theorem ap_asg {g : D → Env' → Option Env'} : oAsg m g env = exOut (m env) env fun d => match g d env with
  | some e => .nx e
  | none => .err := rfl
theorem ap_aug : oAug i f m env = exOut (mVar i env) env fun x => exOut (m env) env fun y => match f x y with
  | some d => .nx (env.set i (some d))
  | none => .err := rfl
theorem ap_lm {fl : List D → List D → Option (List D)} : oLM i fl ms env = match env[i]? with
  | some (some (.list is)) => exOut (ms env) env fun ds => match fl is ds with
    | some js => .nx (env.set i (some (.list js)))
    | none => .err
  | _ => .err := rfl
theorem ap_put : oPut i ma m env = exOut (m env) env fun d => match env[i]? with
  | some (some (.list is)) => exOut (ma env) env fun j => match j with
    | .int j => match ixN is.length j with
      | some n => .nx (env.set i (some (.list (is.set n d))))
      | none => .err
    | _ => .err
  | _ => .err := rfl
theorem ap_oif : oIf nc o1 o2 env = exOut (nc env) env fun b => if b = true then o1 env else o2 env := rfl
theorem ap_ret : oRet m env = exOut (m env) env .rt := rfl
theorem ap_drop : oDrop m env = exOut (m env) env fun _ => .nx env := rfl
theorem ap_raise {c : Str} : oRaise c m env = exOut (m env) env fun d => .exc c d env := rfl
theorem ap_gN : gN i d env = some (env.set i (some d)) := rfl
theorem ap_gT {g : List D → Env' → Option Env'} {ds : List D} : gT' n g (.tuple ds) env = if ds.length = n then g ds env else none := rfl
theorem ap_gsN : gsN [] env = some env := rfl
theorem ap_gsC {g : D → Env' → Option Env'} {gs : List D → Env' → Option Env'} {ds : List D} : gsC g gs (d :: ds) env = (g d env).bind (gs ds) := rfl
theorem ap_app {is : List D} : lApp is [d] = if is.length < sizeLine then some (is ++ [d]) else none := rfl
theorem ap_for {mi : Env' → Res (List D)} {g : D → Env' → Option Env'} : oFor mi g o env = exOut (mi env) env fun ds => loop g o ds env := rfl
theorem sz_ge {n : Nat} (h : n ≤ 16777216) : n ≤ sizeLine := h
theorem sz_gt {n : Nat} (h : n < 16777216) : n < sizeLine := h
theorem run_rt {kr : Kd} {n : Nat} {ds : List D} (h : o (ds.map some ++ List.replicate (n - ds.length) none) = .rt d) : runD kr n o ds = .ok d := by
  unfold runD; rw [h]
theorem run_exc {kr : Kd} {n : Nat} {ds : List D} {c : Str} {e : Env'} (h : o (ds.map some ++ List.replicate (n - ds.length) none) = .exc c d e) : runD kr n o ds = .exc c d := by
  unfold runD; rw [h]
theorem run_nx {n : Nat} {ds : List D} {e : Env'} (h : o (ds.map some ++ List.replicate (n - ds.length) none) = .nx e) : runD .pl n o ds = .ok .none := by
  unfold runD; rw [h]
theorem seq_nx {e : Env'} {r : Out} (h1 : o1 env = .nx e) (h2 : o2 e = r) : oSeq o1 o2 env = r := by
  rw [ap_seq, h1]; exact h2
theorem seq_ex {e : Env'} {C : Out → Prop} (h1 : o1 env = .nx e) (h2 : ∃ x, o2 e = x ∧ C x) : ∃ x, oSeq o1 o2 env = x ∧ C x := by
  obtain ⟨x, h2, h3⟩ := h2
  exact ⟨x, seq_nx h1 h2, h3⟩
theorem for_ok {mi : Env' → Res (List D)} {g : D → Env' → Option Env'} {ds : List D} {r : Out} (h : mi env = .ok ds) (h2 : loop g o ds env = r) : oFor mi g o env = r := by
  rw [ap_for, h]; exact h2
theorem for_all {mi : Env' → Res (List D)} {g : D → Env' → Option Env'} (P : Nat → Env' → Prop) (ds : List D) (hi : mi env = .ok ds) (h0 : P 0 env)
    (hs : ∀ i d e, ds[i]? = some d → P i e → ∃ e1 e2, g d e = some e1 ∧ o e1 = .nx e2 ∧ P (i + 1) e2) : ∃ e, oFor mi g o env = .nx e ∧ P ds.length e := by
  obtain ⟨e, h1, h2⟩ := loop_all P hs h0
  exact ⟨e, for_ok hi h1, h2⟩
theorem seq_for {mi : Env' → Res (List D)} {g : D → Env' → Option Env'} {C : Out → Prop} (P : Nat → Env' → Prop) (ds : List D) (hi : mi env = .ok ds) (h0 : P 0 env)
    (hs : ∀ i d e, ds[i]? = some d → P i e → ∃ e1 e2, g d e = some e1 ∧ o e1 = .nx e2 ∧ P (i + 1) e2) (hk : ∀ e, P ds.length e → ∃ x, o2 e = x ∧ C x) : ∃ x, oSeq (oFor mi g o) o2 env = x ∧ C x := by
  obtain ⟨e, h1, h2⟩ := for_all P ds hi h0 hs
  exact seq_ex h1 (hk e h2)
theorem seq_while {C : Out → Prop} (P : Nat → Env' → Prop) (n : Nat) {fuel : Nat} (hf : n < fuel) (h0 : P n env) (hs : ∀ n e, P n e → (nc e = .ok false) ∨ (nc e = .ok true ∧ ∃ e2 k, o e = .nx e2 ∧ k < n ∧ P k e2))
    (hk : ∀ k e, P k e → nc e = .ok false → ∃ x, o2 e = x ∧ C x) : ∃ x, oSeq (wloop nc o fuel) o2 env = x ∧ C x := by
  obtain ⟨e, k, h1, h2, h3, _⟩ := wloop_all P hs n fuel env hf h0
  exact seq_ex h1 (hk k e h3 h2)
theorem seq_find {v n : Nat} {mi : Env' → Res (List D)} (p : Nat → Bool) (r : Nat → D) (hi : mi env = .ok (rng 0 n)) (hb : ∀ k, k < n → o (env.set v (some (.int (k : Int)))) = if p k = true then .rt (r k) else .nx (env.set v (some (.int (k : Int))))) :
    (∃ k, (List.range n).find? p = some k ∧ oSeq (oFor mi (gN v) o) o2 env = .rt (r k)) ∨ ((List.range n).find? p = none ∧ ∃ e, (e = env ∨ ∃ j, e = env.set v (some j)) ∧ oSeq (oFor mi (gN v) o) o2 env = o2 e) := by
  rcases loop_find p r hb with ⟨k, h1, h2⟩ | ⟨h1, e, h2, h3⟩
  · exact .inl ⟨k, h1, by rw [ap_seq, for_ok hi h2]; rfl⟩
  · exact .inr ⟨h1, e, h3, by rw [ap_seq, for_ok hi h2]; rfl⟩
end
theorem irange_ok {env : Env'} {ms : Env' → Res (List D)} {l ds : List D} (h : ms env = .ok l) (h2 : rangeD l = .ok ds) : iRange ms env = .ok ds := by
  rw [ap_irange, h]; exact h2
theorem add_ii {i j : Int} : addD (.int i) (.int j) = some (.int (i + j)) := rfl
theorem sub_ii {i j : Int} : subD (.int i) (.int j) = some (.int (i - j)) := rfl
theorem ap_lenL {ds : List D} : lenD [.list ds] = some (.int ds.length) := rfl
theorem ap_lenT {ds : List D} : lenD [.tuple ds] = some (.int ds.length) := rfl
theorem ap_lenS {xs : List Nat} (h : xs.length ≤ sizeLine) : lenD [.str (txS xs)] = some (.int xs.length) := by
  have h' : (txS xs).length ≤ sizeLine := by rw [txS_length]; exact h
  show (if (txS xs).length ≤ sizeLine then some (PyData.int (txS xs).length) else none) = _
  rw [if_pos h', txS_length]
theorem range1 {n : Nat} (h : n < 4611686018427387904) : rangeD [.int (n : Int)] = .ok (rng 0 n) := by
  have : small62 (n : Int) := by unfold small62; omega
  simp [rangeD, this]
theorem cut_all {α : Type} (xs : List α) (k : Nat) (h : xs.length ≤ k) : cut xs none (some (k : Int)) = xs := by
  have e : ¬ ((k : Int) < 0) := by omega
  simp only [cut, HT.sIx, if_neg e, List.drop_zero, Int.toNat_natCast, Nat.sub_zero]
  rw [Nat.min_eq_right h, List.take_length]
theorem ix_str1 {x : Str} (s : String) {i : Int} {d : Option D} (h : ixD (.str (Str.ofString s)) (.int i) = d) : ixD (.str (s : String)) (.int i) = d := h
end DL

namespace DL
open PySem PySem.Spec L2
/-- data that is shown without trouble -/
structure Sm (w dp : Nat) (d : D) : Prop where
  lay : PyData.canLay0 d = true
  shw : PyData.showable d = true
  dep : PyData.depth d ≤ dp
  wei : PyData.weight d ≤ w
  shi : PyData.intsShort 13 d = true
theorem Sm.mono {w dp w' dp' : Nat} {d : D} (h : Sm w dp d) (h1 : w ≤ w') (h2 : dp ≤ dp') : Sm w' dp' d := ⟨h.lay, h.shw, Nat.le_trans h.dep h2, Nat.le_trans h.wei h1, h.shi⟩
theorem Sm.none : Sm 0 0 .none := ⟨by simp [PyData.canLay0], by simp [PyData.showable], by simp [PyData.depth], by simp [PyData.weight], by simp [PyData.intsShort]⟩
theorem Sm.bool {b : Bool} : Sm 0 0 (.bool b) := ⟨by simp [PyData.canLay0], by simp [PyData.showable], by simp [PyData.depth], by simp [PyData.weight], by simp [PyData.intsShort]⟩
theorem Sm.int {n : Nat} (h : n < 10000000000000) : Sm 64 0 (.int n) := by
  have hl : n.log2 < 44 := by
    by_cases hz : n = 0
    · subst hz; decide
    · exact (Nat.log2_lt hz).mpr (by omega)
  refine ⟨by simp [PyData.canLay0], ?_, by simp [PyData.depth], ?_, ?_⟩
  · simp [PyData.showable]; omega
  · simp only [PyData.weight]
    split
    · omega
    · rw [Int.natAbs_natCast]; omega
  · simp only [PyData.intsShort, PyData.shown]
    refine decide_eq_true ?_
    exact PyProof.Rows.toString_length_le (v := (n : Int)) (k := 13) (by omega) (by decide) (by omega)
theorem Sm.str {x : Str} (h : PyData.strOk x = true) : Sm x.length 0 (.str x) := ⟨by simpa [PyData.canLay0] using h, by simp [PyData.showable], by simp [PyData.depth], by simp [PyData.weight, Str.length], by simp [PyData.intsShort]⟩
theorem Sm.all {w dp : Nat} : ∀ {ds : List D}, (∀ d ∈ ds, Sm w dp d) → PyData.canLayAll0 ds = true ∧ PyData.showableAll ds = true ∧ PyData.depthAll ds ≤ dp ∧ PyData.weightAll ds ≤ (w + 1) * ds.length ∧ PyData.intsShortAll 13 ds = true
  | [], _ => ⟨by simp [PyData.canLayAll0], by simp [PyData.showableAll], by simp [PyData.depthAll], by simp [PyData.weightAll], by simp [PyData.intsShortAll]⟩
  | d :: ds, h => by
    obtain ⟨h1, h2, h3, h4, h5⟩ := Sm.all (ds := ds) fun z hz => h z (by simp [hz])
    have h0 := h d (by simp)
    refine ⟨by simp [PyData.canLayAll0, h1, h0.lay], by simp [PyData.showableAll, h2, h0.shw], ?_, ?_, by simp [PyData.intsShortAll, h5, h0.shi]⟩
    · simp only [PyData.depthAll]; have := h0.dep; omega
    · simp only [PyData.weightAll, List.length_cons, Nat.mul_add]
      have := h0.wei
      omega
theorem Sm.list {w dp : Nat} {ds : List D} (h : ∀ d ∈ ds, Sm w dp d) : Sm ((w + 1) * ds.length) (dp + 1) (.list ds) := by
  obtain ⟨h1, h2, h3, h4, h5⟩ := Sm.all h
  exact ⟨by simpa [PyData.canLay0] using h1, by simpa [PyData.showable] using h2, by simp only [PyData.depth]; omega, by simpa [PyData.weight] using h4, by simpa [PyData.intsShort] using h5⟩
theorem Sm.tuple {w dp : Nat} {ds : List D} (h : ∀ d ∈ ds, Sm w dp d) : Sm ((w + 1) * ds.length) (dp + 1) (.tuple ds) := by
  obtain ⟨h1, h2, h3, h4, h5⟩ := Sm.all h
  exact ⟨by simpa [PyData.canLay0] using h1, by simpa [PyData.showable] using h2, by simp only [PyData.depth]; omega, by simpa [PyData.weight] using h4, by simpa [PyData.intsShort] using h5⟩
theorem Sm.repr {w dp : Nat} {d : D} (h : Sm w dp d) (hw : w ≤ 1048576) (hd : dp ≤ 64) : reprD [d] = some (.str d.shown) := by
  have h1 := h.dep
  have h2 := h.wei
  have hl : PyData.layable0 d = true := by
    have : PyData.weight d ≤ 2 ^ 20 := by omega
    simp only [PyData.layable0, h.lay, Bool.true_and, Bool.and_eq_true, decide_eq_true_eq]
    exact ⟨by omega, this⟩
  have h3 := PyData.shown_fits_of_layable0 (B := 13) (by decide) (by decide) hl h.shi
  have : reprOk d = true := by
    simp only [reprOk, h.lay, h.shw, Bool.true_and, Bool.and_eq_true, decide_eq_true_eq]
    exact ⟨by omega, h3⟩
  simp only [reprD, this, if_true]
theorem Sm.shaped {w dp : Nat} {d : D} (h : Sm w dp d) (hd : dp ≤ 64) : SeqAt.shaped d = true := by
  have := h.dep
  simp only [SeqAt.shaped, h.lay, Bool.true_and, decide_eq_true_eq]
  omega
theorem strOk_low {xs : List Nat} (h : ∀ c ∈ xs, c < 128) : PyData.strOk (txS xs) = true := by
  simp only [PyData.strOk, txS, Array.all_eq_true_iff_forall_mem]
  intro c hc
  have := h c (by simpa using hc)
  simp
  omega
end DL

namespace K67
open PySem PySem.Spec L2 DL
def top (i : Nat) : Stmt := PySem.Challenge.pw_suffixhouse_k67_places_counted_by_rules.main.body.getD i (.Pass ⟨0, 0, 0, 0⟩)
abbrev s_init : Stmt := inClass (top 1) 0
def n_init : List Str := ["self", "at"]
theorem sc_init : FnScope n_init n_init (defScope s_init) := ⟨rfl, rfl, rfl, by decide +kernel, rfl, by decide +kernel, by decide +kernel⟩
def h_HouseError (c : Str) : Option Bool := if c = "HouseError" then some true else if c = "OutOfRange" then some true else none
def isub_OutOfRange (c : Str) : Bool := decide (c = "OutOfRange")
def n_check_symbol : List Str := ["rules", "k"]
def p_check_symbol : List Str := ["rules", "k"]
abbrev s_check_symbol : Stmt := top 4
theorem sc_check_symbol : FnScope n_check_symbol p_check_symbol (defScope s_check_symbol) := ⟨rfl, rfl, rfl, by decide +kernel, rfl, by decide +kernel, by decide +kernel⟩
def o_check_symbol : Env' → Out := (oIf (bNot (mB (mChain leI ltI (mC (.int 0)) (mVar 1) (mCB lenD (aCons (m2 ixD (mVar 0) (mC (.int 0))) aNil))))) (oRaise "OutOfRange" (mVar 1)) oSkip)
def m_check_symbol : List D → Res D := runD .pl 2 o_check_symbol
def n_match_behind : List Str := ["word", "match", "letter", "letters", "size"]
def p_match_behind : List Str := ["word", "match", "letter"]
abbrev s_match_behind : Stmt := top 6
theorem sc_match_behind : FnScope n_match_behind p_match_behind (defScope s_match_behind) := ⟨rfl, rfl, rfl, by decide +kernel, rfl, by decide +kernel, by decide +kernel⟩
def o_match_behind : Env' → Out := (oSeq (oSet 3 (m2 addD (m3 slD (mVar 0) mNoPart (mPart (mVar 1))) (mVar 2))) (oSeq (oSet 4 (mCB minD (aCons (mCB lenD (aCons (mVar 0) aNil)) (aCons (mCB lenD (aCons (mVar 3) aNil)) aNil)))) (oSeq (wloop (mB (m2 neD (m3 slD (mVar 3) (mPart (m2 subD (mCB lenD (aCons (mVar 3) aNil)) (mVar 4))) mNoPart) (m3 slD (mVar 0) mNoPart (mPart (mVar 4))))) (oAug 4 subD (mC (.int 1))) wfuel) (oRet (mVar 4)))))
def m_match_behind : List D → Res D := runD .pl 5 o_match_behind
def n_meetings : List Str := ["rules", "word", "found", "symbol", "row", "match", "after", "middle", "one", "two"]
def p_meetings : List Str := ["rules", "word"]
abbrev s_meetings : Stmt := top 7
theorem sc_meetings : FnScope n_meetings p_meetings (defScope s_meetings) := ⟨rfl, rfl, rfl, by decide +kernel, rfl, by decide +kernel, by decide +kernel⟩
def o_meetings : Env' → Out := (oSeq (oSet 2 (mList aNil)) (oSeq (oFor (iSeq (m2 ixD (mVar 0) (mC (.int 0)))) (gN 3) (oSeq (oSet 4 (mList aNil)) (oSeq (oFor (iRange (aCons (m2 addD (mCB lenD (aCons (mVar 1) aNil)) (mC (.int 1))) aNil)) (gN 5) (oSeq (oIf (mB (m2 eqD (m2 ixD (mVar 3) (mC (.int 0))) (mC (.str "letter")))) (oSeq (oSet 6 (mCall m_match_behind (aCons (mVar 1) (aCons (mVar 5) (aCons (m2 ixD (mVar 3) (mC (.int 1))) aNil))))) (oLM 4 lApp (aCons (mTup (aCons (mVar 6) (aCons (mCB intD (aCons (m2 eqD (mVar 6) (mCB lenD (aCons (mVar 1) aNil))) aNil)) aNil))) aNil))) (oSeq (oAsg (m2 ixD (m2 ixD (mVar 2) (m2 ixD (mVar 3) (mC (.int 1)))) (mVar 5)) (gT' 2 (gsC (gN 7) (gsC (gN 8) gsN)))) (oSeq (oAsg (m2 ixD (m2 ixD (mVar 2) (m2 ixD (mVar 3) (mC (.int 2)))) (mVar 7)) (gT' 2 (gsC (gN 6) (gsC (gN 9) gsN)))) (oSeq (oLM 4 lApp (aCons (mTup (aCons (mVar 6) (aCons (m2 addD (mVar 8) (mVar 9)) aNil))) aNil)) oSkip)))) oSkip)) (oSeq (oLM 2 lApp (aCons (mVar 4) aNil)) oSkip)))) (oRet (mVar 2))))
def m_meetings : List D → Res D := runD .fr 10 o_meetings
def n_count_in : List Str := ["rules", "k", "word"]
def p_count_in : List Str := ["rules", "k", "word"]
abbrev s_count_in : Stmt := top 8
theorem sc_count_in : FnScope n_count_in p_count_in (defScope s_count_in) := ⟨rfl, rfl, rfl, by decide +kernel, rfl, by decide +kernel, by decide +kernel⟩
def o_count_in : Env' → Out := (oSeq (oDrop (mCall m_check_symbol (aCons (mVar 0) (aCons (mVar 1) aNil)))) (oRet (m2 ixD (m2 ixD (m2 ixD (mCall m_meetings (aCons (mVar 0) (aCons (mVar 2) aNil))) (mVar 1)) (mC (.int 0))) (mC (.int 1)))))
def m_count_in : List D → Res D := runD .pl 3 o_count_in
def n_count_of : List Str := ["rules", "word", "found", "root"]
def p_count_of : List Str := ["rules", "word"]
abbrev s_count_of : Stmt := top 9
theorem sc_count_of : FnScope n_count_of p_count_of (defScope s_count_of) := ⟨rfl, rfl, rfl, by decide +kernel, rfl, by decide +kernel, by decide +kernel⟩
def o_count_of : Env' → Out := (oSeq (oSet 2 (mCall m_meetings (aCons (mVar 0) (aCons (mVar 1) aNil)))) (oRet (mCB sumD (aCons (mLc (iSeq (m2 ixD (mVar 0) (mC (.int 1)))) (gN 3) (mB (mNotN (mVar 3))) (m2 ixD (m2 ixD (m2 ixD (mVar 2) (mVar 3)) (mC (.int 0))) (mC (.int 1))) [3]) aNil))))
def m_count_of : List D → Res D := runD .pl 4 o_count_of
def n__law_numbers : List Str := ["script", "count", "rest", "mixed", "numbers", "k", "at", "cell"]
def p__law_numbers : List Str := ["script", "count"]
abbrev s__law_numbers : Stmt := top 11
theorem sc__law_numbers : FnScope n__law_numbers p__law_numbers (defScope s__law_numbers) := ⟨rfl, rfl, rfl, by decide +kernel, rfl, by decide +kernel, by decide +kernel⟩
def o__law_numbers : Env' → Out := (oSeq (oSet 2 (m2 catD (mLc (iSeq (m3 slD (mVar 0) mNoPart (mPart (mC (.int 63))))) (gN 7) bYes (mCB absD (aCons (mVar 7) aNil)) [7]) (mList (aCons (mC (.int 0)) aNil)))) (oSeq (oIf (mB (m2 gtI (mCB lenD (aCons (mVar 0) aNil)) (mC (.int 0)))) (oSet 2 (m3 slLD (mVar 2) mNoPart (mPart (m1 negD (mC (.int 1)))))) oSkip) (oSeq (oSet 3 (mLc (iOwn (mVar 2)) (gN 7) bYes (m2 modD (mCB intD (aCons (m2 addD (m2 mulG (mVar 7) (mC (.int 48271))) (mC (.int 11))) aNil)) (mC (.int 2147483647))) [7])) (oSeq (oSet 4 (mList aNil)) (oSeq (oFor (iRange (aCons (mVar 1) aNil)) (gN 5) (oSeq (oSet 6 (m2 modD (mCB intD (aCons (mVar 5) aNil)) (mCB lenD (aCons (mVar 2) aNil)))) (oSeq (oIf (mB (m2 geI (m2 ixD (mVar 2) (mVar 6)) (m2 powD (mC (.int 10)) (mC (.int 18))))) (oSeq (oLM 4 lApp (aCons (m2 modD (mCB intD (aCons (m2 ixD (mVar 2) (mVar 6)) aNil)) (mC (.int 65536))) aNil)) (oPut 2 (mVar 6) (m2 fdivD (m2 ixD (mVar 2) (mVar 6)) (mC (.int 65536))))) (oSeq (oPut 3 (mVar 6) (m2 modD (mCB intD (aCons (m2 addD (m2 addD (m2 mulG (m2 ixD (mVar 3) (mVar 6)) (mC (.int 16807))) (mC (.int 12345))) (m2 mulG (mC (.int 7919)) (mVar 5))) aNil)) (mC (.int 2147483647)))) (oLM 4 lApp (aCons (m2 modD (mCB intD (aCons (m2 addD (m2 ixD (mVar 2) (mVar 6)) (m2 fdivD (m2 ixD (mVar 3) (mVar 6)) (mC (.int 5)))) aNil)) (mC (.int 65536))) aNil)))) oSkip))) (oRet (mVar 4)))))))
def m__law_numbers : List D → Res D := runD .fr 8 o__law_numbers
def n__law_drawn : List Str := ["numbers", "at"]
def p__law_drawn : List Str := ["numbers", "at"]
abbrev s__law_drawn : Stmt := top 12
theorem sc__law_drawn : FnScope n__law_drawn p__law_drawn (defScope s__law_drawn) := ⟨rfl, rfl, rfl, by decide +kernel, rfl, by decide +kernel, by decide +kernel⟩
def o__law_drawn : Env' → Out := (oRet (m2 ixD (mVar 0) (m2 modD (mCB intD (aCons (mVar 1) aNil)) (mCB lenD (aCons (mVar 0) aNil)))))
def m__law_drawn : List D → Res D := runD .pl 2 o__law_drawn
def n__law_symbols : List Str := ["numbers", "at", "most", "symbols", "k", "drawn", "late", "one", "two", "letter"]
def p__law_symbols : List Str := ["numbers", "at", "most"]
abbrev s__law_symbols : Stmt := top 13
theorem sc__law_symbols : FnScope n__law_symbols p__law_symbols (defScope s__law_symbols) := ⟨rfl, rfl, rfl, by decide +kernel, rfl, by decide +kernel, by decide +kernel⟩
def o__law_symbols : Env' → Out := (oSeq (oSet 3 (mLc (iSeq (m2 ixD (mList (aCons (mC (.str "ab")) (aCons (mC (.str "abc")) (aCons (mC (.str "a")) (aCons (mC (.str "x ~")) aNil))))) (m2 modD (mCB intD (aCons (mCall m__law_drawn (aCons (mVar 0) (aCons (mVar 1) aNil))) aNil)) (mC (.int 4))))) (gN 9) bYes (mTup (aCons (mC (.str "letter")) (aCons (mVar 9) aNil))) [9])) (oSeq (oFor (iRange (aCons (m2 modD (mCB intD (aCons (mCall m__law_drawn (aCons (mVar 0) (aCons (m2 addD (mVar 1) (mC (.int 1))) aNil))) aNil)) (m2 addD (mVar 2) (mC (.int 1)))) aNil)) (gN 4) (oSeq (oSet 5 (mCall m__law_drawn (aCons (mVar 0) (aCons (m2 addD (m2 addD (mVar 1) (mC (.int 2))) (mVar 4)) aNil)))) (oSeq (oSet 6 (m2 modD (mCB intD (aCons (m2 fdivD (mVar 5) (mC (.int 7))) aNil)) (mC (.int 3)))) (oSeq (oSet 7 (m2 ixD (mList (aCons (m2 modD (mCB intD (aCons (m2 fdivD (mVar 5) (mC (.int 21))) aNil)) (mCB lenD (aCons (mVar 3) aNil))) (aCons (m2 subD (mCB lenD (aCons (mVar 3) aNil)) (mC (.int 1))) (aCons (mCB maxD (aCons (mC (.int 0)) (aCons (m2 subD (mCB lenD (aCons (mVar 3) aNil)) (mC (.int 2))) aNil))) aNil)))) (mVar 6))) (oSeq (oSet 8 (m2 ixD (mList (aCons (m2 modD (mCB intD (aCons (m2 fdivD (mVar 5) (mC (.int 999))) aNil)) (mCB lenD (aCons (mVar 3) aNil))) (aCons (m2 subD (mCB lenD (aCons (mVar 3) aNil)) (mC (.int 1))) (aCons (mCB maxD (aCons (mC (.int 0)) (aCons (m2 subD (m2 subD (mCB lenD (aCons (mVar 3) aNil)) (mC (.int 1))) (m2 modD (mCB intD (aCons (m2 fdivD (mVar 5) (mC (.int 999))) aNil)) (mC (.int 3)))) aNil))) aNil)))) (m2 modD (mCB intD (aCons (mVar 5) aNil)) (mC (.int 3))))) (oSeq (oIf (mB (m2 notInD (mTup (aCons (mC (.str "pair")) (aCons (mVar 7) (aCons (mVar 8) aNil)))) (mVar 3))) (oLM 3 lApp (aCons (mTup (aCons (mC (.str "pair")) (aCons (mVar 7) (aCons (mVar 8) aNil)))) aNil)) oSkip) oSkip)))))) (oRet (mVar 3))))
def m__law_symbols : List D → Res D := runD .fr 10 o__law_symbols
def n__law_roots : List Str := ["numbers", "at", "symbols", "roots", "k", "drawn"]
def p__law_roots : List Str := ["numbers", "at", "symbols"]
abbrev s__law_roots : Stmt := top 14
theorem sc__law_roots : FnScope n__law_roots p__law_roots (defScope s__law_roots) := ⟨rfl, rfl, rfl, by decide +kernel, rfl, by decide +kernel, by decide +kernel⟩
def o__law_roots : Env' → Out := (oSeq (oSet 3 (mList aNil)) (oSeq (oFor (iRange (aCons (m2 modD (mCB intD (aCons (mCall m__law_drawn (aCons (mVar 0) (aCons (mVar 1) aNil))) aNil)) (mC (.int 9))) aNil)) (gN 4) (oSeq (oSet 5 (mCall m__law_drawn (aCons (mVar 0) (aCons (m2 addD (m2 addD (mVar 1) (mC (.int 1))) (mVar 4)) aNil)))) (oSeq (oLM 3 lApp (aCons (m2 ixD (mList (aCons (m2 modD (mCB intD (aCons (m2 fdivD (mVar 5) (mC (.int 4))) aNil)) (mCB lenD (aCons (mVar 2) aNil))) (aCons (mC .none) aNil))) (mCB intD (aCons (m2 eqD (m2 modD (mCB intD (aCons (mVar 5) aNil)) (mC (.int 4))) (mC (.int 1))) aNil))) aNil)) oSkip))) (oRet (mVar 3))))
def m__law_roots : List D → Res D := runD .fr 6 o__law_roots
def n__law_sizes : List Str := ["symbols", "found", "symbol", "k"]
def p__law_sizes : List Str := ["symbols"]
abbrev s__law_sizes : Stmt := top 15
theorem sc__law_sizes : FnScope n__law_sizes p__law_sizes (defScope s__law_sizes) := ⟨rfl, rfl, rfl, by decide +kernel, rfl, by decide +kernel, by decide +kernel⟩
def o__law_sizes : Env' → Out := (oSeq (oSet 1 (mList aNil)) (oSeq (oFor (iSeq (mVar 0)) (gN 2) (oSeq (oLM 1 lApp (aCons (m2 ixD (mList (aCons (mC (.int 1)) (aCons (mCB sumD (aCons (mLc (iSeq (m3 slD (mVar 2) (mPart (mC (.int 1))) mNoPart)) (gN 3) (mB (mIsi "int" (mVar 3))) (m2 ixD (mVar 1) (mVar 3)) [3]) aNil)) aNil))) (mCB intD (aCons (m2 eqD (m2 ixD (mVar 2) (mC (.int 0))) (mC (.str "pair"))) aNil))) aNil)) oSkip)) (oRet (mVar 1))))
def m__law_sizes : List D → Res D := runD .fr 4 o__law_sizes
def n__law_texts : List Str := ["symbols", "most", "found", "sizes", "k", "text"]
def p__law_texts : List Str := ["symbols", "most"]
abbrev s__law_texts : Stmt := top 16
theorem sc__law_texts : FnScope n__law_texts p__law_texts (defScope s__law_texts) := ⟨rfl, rfl, rfl, by decide +kernel, rfl, by decide +kernel, by decide +kernel⟩
def o__law_texts : Env' → Out := (oSeq (oSet 2 (mList aNil)) (oSeq (oSet 3 (mCall m__law_sizes (aCons (mVar 0) aNil))) (oSeq (oFor (iRange (aCons (mCB lenD (aCons (mVar 0) aNil)) aNil)) (gN 4) (oSeq (oSet 5 (mC .none)) (oSeq (oIf (mB (m2 eqD (m2 ixD (m2 ixD (mVar 0) (mVar 4)) (mC (.int 0))) (mC (.str "letter")))) (oSet 5 (m2 ixD (m2 ixD (mVar 0) (mVar 4)) (mC (.int 1)))) (oIf (mB (m2 leI (m2 ixD (mVar 3) (mVar 4)) (mVar 1))) (oSet 5 (m2 addD (m2 ixD (mVar 2) (m2 ixD (m2 ixD (mVar 0) (mVar 4)) (mC (.int 1)))) (m2 ixD (mVar 2) (m2 ixD (m2 ixD (mVar 0) (mVar 4)) (mC (.int 2)))))) oSkip)) (oSeq (oLM 2 lApp (aCons (mVar 5) aNil)) oSkip)))) (oRet (mVar 2)))))
def m__law_texts : List D → Res D := runD .fr 6 o__law_texts
def n__law_scan : List Str := ["text", "word", "k"]
def p__law_scan : List Str := ["text", "word"]
abbrev s__law_scan : Stmt := top 17
theorem sc__law_scan : FnScope n__law_scan p__law_scan (defScope s__law_scan) := ⟨rfl, rfl, rfl, by decide +kernel, rfl, by decide +kernel, by decide +kernel⟩
def o__law_scan : Env' → Out := (oRet (mCB lenD (aCons (mLc (iRange (aCons (m2 addD (m2 subD (mCB lenD (aCons (mVar 0) aNil)) (mCB lenD (aCons (mVar 1) aNil))) (mC (.int 1))) aNil)) (gN 2) (mB (m2 eqD (m3 slD (mVar 0) (mPart (mVar 2)) (mPart (m2 addD (mVar 2) (mCB lenD (aCons (mVar 1) aNil))))) (mVar 1))) (mVar 2) [2]) aNil)))
def m__law_scan : List D → Res D := runD .pl 3 o__law_scan
def n__law_edges : List Str := ["symbols", "size", "heads", "tails", "symbol"]
def p__law_edges : List Str := ["symbols", "size"]
abbrev s__law_edges : Stmt := top 18
theorem sc__law_edges : FnScope n__law_edges p__law_edges (defScope s__law_edges) := ⟨rfl, rfl, rfl, by decide +kernel, rfl, by decide +kernel, by decide +kernel⟩
def o__law_edges : Env' → Out := (oSeq (oSet 2 (mList aNil)) (oSeq (oSet 3 (mList aNil)) (oSeq (oFor (iSeq (mVar 0)) (gN 4) (oSeq (oIf (mB (m2 eqD (m2 ixD (mVar 4) (mC (.int 0))) (mC (.str "letter")))) (oSeq (oLM 2 lApp (aCons (m2 ixD (mVar 4) (mC (.int 1))) aNil)) (oLM 3 lApp (aCons (m2 ixD (mVar 4) (mC (.int 1))) aNil))) (oSeq (oLM 2 lApp (aCons (m3 slD (m2 addD (m2 ixD (mVar 2) (m2 ixD (mVar 4) (mC (.int 1)))) (m2 ixD (mVar 2) (m2 ixD (mVar 4) (mC (.int 2))))) mNoPart (mPart (mVar 1))) aNil)) (oLM 3 lApp (aCons (m3 slD (m2 addD (m2 ixD (mVar 3) (m2 ixD (mVar 4) (mC (.int 1)))) (m2 ixD (mVar 3) (m2 ixD (mVar 4) (mC (.int 2))))) (mPart (m1 negD (mVar 1))) mNoPart) aNil)))) oSkip)) (oRet (mTup (aCons (mVar 2) (aCons (mVar 3) aNil)))))))
def m__law_edges : List D → Res D := runD .pl 5 o__law_edges
def n__law_counts : List Str := ["symbols", "word", "size", "found", "symbol", "heads", "tails", "one"]
def p__law_counts : List Str := ["symbols", "word"]
abbrev s__law_counts : Stmt := top 19
theorem sc__law_counts : FnScope n__law_counts p__law_counts (defScope s__law_counts) := ⟨rfl, rfl, rfl, by decide +kernel, rfl, by decide +kernel, by decide +kernel⟩
def o__law_counts : Env' → Out := (oSeq (oSet 2 (m2 subD (mCB lenD (aCons (mVar 1) aNil)) (mC (.int 1)))) (oSeq (oAsg (mCall m__law_edges (aCons (mVar 0) (aCons (mC (.int 12)) aNil))) (gT' 2 (gsC (gN 5) (gsC (gN 6) gsN)))) (oSeq (oSet 3 (mList aNil)) (oSeq (oFor (iSeq (mVar 0)) (gN 4) (oSeq (oIf (mB (m2 eqD (m2 ixD (mVar 4) (mC (.int 0))) (mC (.str "letter")))) (oLM 3 lApp (aCons (mCB intD (aCons (m2 eqD (m2 ixD (mVar 4) (mC (.int 1))) (mVar 1)) aNil)) aNil)) (oSeq (oSet 7 (m3 slD (m2 ixD (mVar 6) (m2 ixD (mVar 4) (mC (.int 1)))) (mPart (mCB maxD (aCons (mC (.int 0)) (aCons (m2 subD (mCB lenD (aCons (m2 ixD (mVar 6) (m2 ixD (mVar 4) (mC (.int 1)))) aNil)) (mVar 2)) aNil)))) mNoPart)) (oSeq (oLM 3 lApp (aCons (m2 addD (m2 addD (m2 ixD (mVar 3) (m2 ixD (mVar 4) (mC (.int 1)))) (m2 ixD (mVar 3) (m2 ixD (mVar 4) (mC (.int 2))))) (mCall m__law_scan (aCons (m2 addD (mVar 7) (m3 slD (m2 ixD (mVar 5) (m2 ixD (mVar 4) (mC (.int 2)))) mNoPart (mPart (mVar 2)))) (aCons (mVar 1) aNil)))) aNil)) oSkip))) oSkip)) (oRet (mVar 3))))))
def m__law_counts : List D → Res D := runD .fr 8 o__law_counts
def n__law_word : List Str := ["numbers", "at", "texts", "short", "text", "start", "word"]
def p__law_word : List Str := ["numbers", "at", "texts"]
abbrev s__law_word : Stmt := top 20
theorem sc__law_word : FnScope n__law_word p__law_word (defScope s__law_word) := ⟨rfl, rfl, rfl, by decide +kernel, rfl, by decide +kernel, by decide +kernel⟩
def o__law_word : Env' → Out := (oSeq (oSet 3 (mLc (iSeq (mVar 2)) (gN 4) (mB (mNotN (mVar 4))) (mVar 4) [4])) (oSeq (oSet 4 (m2 ixD (mVar 3) (m2 modD (mCB intD (aCons (mCall m__law_drawn (aCons (mVar 0) (aCons (mVar 1) aNil))) aNil)) (mCB lenD (aCons (mVar 3) aNil))))) (oSeq (oSet 5 (m2 modD (mCB intD (aCons (mCall m__law_drawn (aCons (mVar 0) (aCons (m2 addD (mVar 1) (mC (.int 1))) aNil))) aNil)) (mCB lenD (aCons (mVar 4) aNil)))) (oSeq (oSet 6 (m3 slD (mVar 4) (mPart (mVar 5)) (mPart (m2 addD (m2 addD (mVar 5) (mC (.int 1))) (m2 modD (mCB intD (aCons (mCall m__law_drawn (aCons (mVar 0) (aCons (m2 addD (mVar 1) (mC (.int 2))) aNil))) aNil)) (mC (.int 12))))))) (oSeq (oIf (mB (m2 eqD (m2 modD (mCB intD (aCons (mCall m__law_drawn (aCons (mVar 0) (aCons (m2 addD (mVar 1) (mC (.int 3))) aNil))) aNil)) (mC (.int 4))) (mC (.int 1)))) (oSet 6 (m3 slD (m2 addD (mVar 6) (m2 ixD (mC (.str "ab?c")) (m2 modD (mCB intD (aCons (mCall m__law_drawn (aCons (mVar 0) (aCons (m2 addD (mVar 1) (mC (.int 4))) aNil))) aNil)) (mC (.int 4))))) (mPart (m1 negD (mC (.int 12)))) mNoPart)) oSkip) (oRet (mVar 6)))))))
def m__law_word : List D → Res D := runD .pl 7 o__law_word
def n__law_power : List Str := ["many", "total", "turn"]
def p__law_power : List Str := ["many"]
abbrev s__law_power : Stmt := top 21
theorem sc__law_power : FnScope n__law_power p__law_power (defScope s__law_power) := ⟨rfl, rfl, rfl, by decide +kernel, rfl, by decide +kernel, by decide +kernel⟩
def o__law_power : Env' → Out := (oSeq (oSet 1 (mC (.int 1))) (oSeq (oFor (iRange (aCons (mVar 0) aNil)) (gN 2) (oSeq (oSet 1 (m2 mulG (mC (.int 2)) (mVar 1))) oSkip)) (oRet (mVar 1))))
def m__law_power : List D → Res D := runD .pl 3 o__law_power
def n__law_known : List Str := ["numbers", "many", "powers", "size", "pairs", "grown", "due", "k", "j"]
def p__law_known : List Str := ["numbers"]
abbrev s__law_known : Stmt := top 22
theorem sc__law_known : FnScope n__law_known p__law_known (defScope s__law_known) := ⟨rfl, rfl, rfl, by decide +kernel, rfl, by decide +kernel, by decide +kernel⟩
def o__law_known : Env' → Out := (oSeq (oSet 1 (m2 addD (mC (.int 1)) (m2 modD (mCB intD (aCons (m2 ixD (mVar 0) (mC (.int 200))) aNil)) (m2 ixD (mList (aCons (mC (.int 199)) (aCons (mC (.int 498)) aNil))) (m2 modD (mCB intD (aCons (m2 ixD (mVar 0) (mC (.int 201))) aNil)) (mC (.int 2))))))) (oSeq (oSet 2 (mTup (aCons (m2 addD (mList (aCons (mTup (aCons (mC (.str "letter")) (aCons (mC (.str "a")) aNil))) aNil)) (mLc (iRange (aCons (mVar 1) aNil)) (gN 8) bYes (mTup (aCons (mC (.str "pair")) (aCons (mVar 8) (aCons (mVar 8) aNil)))) [8])) (aCons (mList (aCons (mVar 1) aNil)) aNil)))) (oSeq (oFor (iSeq (mList (aCons (mC (.int 1)) (aCons (mC (.int 2)) (aCons (mC (.int 3)) (aCons (mC (.int 12)) aNil)))))) (gN 3) (oSeq (oIf (mB (m2 neD (mCall m_count_of (aCons (mVar 2) (aCons (m2 mulG (mC (.str "a")) (mVar 3)) aNil))) (mCB maxD (aCons (mC (.int 0)) (aCons (m2 addD (m2 subD (mCall m__law_power (aCons (mVar 1) aNil)) (mVar 3)) (mC (.int 1))) aNil))))) (oRet (mC (.bool false))) oSkip) oSkip)) (oSeq (oSet 4 (mTup (aCons (m2 addD (mList (aCons (mTup (aCons (mC (.str "letter")) (aCons (mC (.str "a")) aNil))) (aCons (mTup (aCons (mC (.str "letter")) (aCons (mC (.str "b")) aNil))) (aCons (mTup (aCons (mC (.str "pair")) (aCons (mC (.int 0)) (aCons (mC (.int 1)) aNil)))) aNil)))) (mLc (iRangeG (aCons (mC (.int 2)) (aCons (m2 subD (m2 addD (mC (.int 2)) (mVar 1)) (mC (.int 1))) aNil))) (gN 8) bYes (mTup (aCons (mC (.str "pair")) (aCons (mVar 8) (aCons (mVar 8) aNil)))) [8])) (aCons (mList (aCons (m2 addD (mVar 1) (mC (.int 1))) aNil)) aNil)))) (oSeq (oIf (bOr (mB (m2 neD (mCall m_count_of (aCons (mVar 4) (aCons (mC (.str "ab")) aNil))) (mCall m__law_power (aCons (m2 subD (mVar 1) (mC (.int 1))) aNil)))) (bOr (mB (m2 neD (mCall m_count_of (aCons (mVar 4) (aCons (mC (.str "ba")) aNil))) (m2 subD (mCall m__law_power (aCons (m2 subD (mVar 1) (mC (.int 1))) aNil)) (mC (.int 1))))) (mB (m2 neD (mCall m_count_of (aCons (mVar 4) (aCons (mC (.str "aa")) aNil))) (mC (.int 0)))))) (oRet (mC (.bool false))) oSkip) (oSeq (oSet 5 (m2 addD (mList (aCons (mTup (aCons (mC (.str "letter")) (aCons (mC (.str "b")) aNil))) (aCons (mTup (aCons (mC (.str "letter")) (aCons (mC (.str "a")) aNil))) aNil))) (mLc (iRange (aCons (m2 subD (mVar 1) (mC (.int 1))) aNil)) (gN 8) bYes (mTup (aCons (mC (.str "pair")) (aCons (m2 addD (mVar 8) (mC (.int 1))) (aCons (mVar 8) aNil)))) [8]))) (oSeq (oSet 6 (mList (aCons (mC (.int 1)) (aCons (mC (.int 0)) aNil)))) (oSeq (oFor (iRangeG (aCons (mC (.int 2)) (aCons (mCB lenD (aCons (mVar 5) aNil)) aNil))) (gN 7) (oSeq (oLM 6 lApp (aCons (m2 addD (m2 ixD (mVar 6) (m2 subD (mVar 7) (mC (.int 1)))) (m2 ixD (mVar 6) (m2 subD (mVar 7) (mC (.int 2))))) aNil)) oSkip)) (oRet (mAndV (m2 eqD (mCall m_count_in (aCons (mTup (aCons (mVar 5) (aCons (mList aNil) aNil))) (aCons (m2 subD (mCB lenD (aCons (mVar 5) aNil)) (mC (.int 1))) (aCons (mC (.str "b")) aNil)))) (m2 ixD (mVar 6) (m1 negD (mC (.int 1))))) (m2 eqD (mCall m_count_in (aCons (mTup (aCons (mVar 5) (aCons (mList aNil) aNil))) (aCons (m2 subD (mCB lenD (aCons (mVar 5) aNil)) (mC (.int 1))) (aCons (mC (.str "bb")) aNil)))) (mC (.int 0)))))))))))))
def m__law_known : List D → Res D := runD .pl 9 o__law_known
def n_law : List Str := ["script", "numbers", "symbols", "rules", "kept", "texts", "turn", "k", "word", "due", "e", "root"]
def p_law : List Str := ["script"]
abbrev s_law : Stmt := top 23
theorem sc_law : FnScope n_law p_law (defScope s_law) := ⟨rfl, rfl, rfl, by decide +kernel, rfl, by decide +kernel, by decide +kernel⟩
def o_law : Env' → Out := (oSeq (oSet 1 (mCall m__law_numbers (aCons (mVar 0) (aCons (mC (.int 400)) aNil)))) (oSeq (oSet 2 (mCall m__law_symbols (aCons (mVar 1) (aCons (mC (.int 10)) (aCons (m2 ixD (mList (aCons (mC (.int 12)) (aCons (mC (.int 57)) aNil))) (m2 modD (mCB intD (aCons (m2 ixD (mVar 1) (mC (.int 0))) aNil)) (mC (.int 2)))) aNil))))) (oSeq (oSet 3 (mTup (aCons (mVar 2) (aCons (mCall m__law_roots (aCons (mVar 1) (aCons (mC (.int 80)) (aCons (mVar 2) aNil)))) aNil)))) (oSeq (oSet 4 (mCB reprD (aCons (mVar 3) aNil))) (oSeq (oSet 5 (mCall m__law_texts (aCons (mVar 2) (aCons (mC (.int 3000)) aNil)))) (oSeq (oFor (iRange (aCons (mC (.int 6)) aNil)) (gN 6) (oSeq (oSet 8 (mCall m__law_word (aCons (mVar 1) (aCons (m2 addD (mC (.int 100)) (m2 mulG (mC (.int 6)) (mVar 6))) (aCons (mVar 5) aNil))))) (oSeq (oSet 9 (mCall m__law_counts (aCons (mVar 2) (aCons (mVar 8) aNil)))) (oSeq (oFor (iRange (aCons (mCB lenD (aCons (mVar 2) aNil)) aNil)) (gN 7) (oSeq (oIf (bAnd (mB (mNotN (m2 ixD (mVar 5) (mVar 7)))) (mB (m2 neD (m2 ixD (mVar 9) (mVar 7)) (mCall m__law_scan (aCons (m2 ixD (mVar 5) (mVar 7)) (aCons (mVar 8) aNil)))))) (oRet (mC (.bool false))) oSkip) oSkip)) (oSeq (oFor (iSeq (mList (aCons (m2 subD (mCB lenD (aCons (mVar 2) aNil)) (mC (.int 1))) (aCons (m2 modD (mCB intD (aCons (m2 ixD (mVar 1) (m2 addD (mC (.int 150)) (mVar 6))) aNil)) (mCB lenD (aCons (mVar 2) aNil))) (aCons (m2 modD (mCB intD (aCons (m2 ixD (mVar 1) (m2 addD (mC (.int 160)) (mVar 6))) aNil)) (mCB lenD (aCons (mVar 2) aNil))) aNil))))) (gN 7) (oSeq (oIf (mB (m2 neD (mCB reprD (aCons (mCall m_count_in (aCons (mVar 3) (aCons (mVar 7) (aCons (mVar 8) aNil)))) aNil)) (mCB reprD (aCons (m2 ixD (mVar 9) (mVar 7)) aNil)))) (oRet (mC (.bool false))) oSkip) oSkip)) (oSeq (oIf (bOr (mB (m2 neD (mCB reprD (aCons (mCall m_count_of (aCons (mVar 3) (aCons (mVar 8) aNil))) aNil)) (mCB reprD (aCons (mCB sumD (aCons (mLc (iSeq (m2 ixD (mVar 3) (mC (.int 1)))) (gN 11) (mB (mNotN (mVar 11))) (m2 ixD (mVar 9) (mVar 11)) [11]) aNil)) aNil)))) (mB (m2 neD (mCB reprD (aCons (mVar 3) aNil)) (mVar 4)))) (oRet (mC (.bool false))) oSkip) oSkip)))))) (oSeq (oFor (iSeq (mList (aCons (m1 negD (mC (.int 1))) (aCons (mCB lenD (aCons (mVar 2) aNil)) (aCons (mC (.int 900)) aNil))))) (gN 7) (oSeq (oTry 10 h_HouseError (oSeq (oDrop (mCall m_count_in (aCons (mVar 3) (aCons (mVar 7) (aCons (mC (.str "a")) aNil))))) (oRet (mC (.bool false)))) (fun cn dat => (oIf (bOr (bNot (mB (mC (.bool (isub_OutOfRange cn))))) (mB (m2 neD (mC dat) (mVar 7)))) (oRet (mC (.bool false))) oSkip))) oSkip)) (oRet (mCall m__law_known (aCons (mVar 1) aNil))))))))))
def m_law : List D → Res D := runD .pl 12 o_law
/-- what the top has written -/
structure Txt (K : PySem.W.Frag) (mg : Str → Option Value) where
  fI : Addr
  fdI : FuncData
  C_HouseError : Addr
  C_OutOfRange : Addr
  f_check_symbol : Addr
  fd_check_symbol : FuncData
  f_match_behind : Addr
  fd_match_behind : FuncData
  f_meetings : Addr
  fd_meetings : FuncData
  f_count_in : Addr
  fd_count_in : FuncData
  f_count_of : Addr
  fd_count_of : FuncData
  f__law_numbers : Addr
  fd__law_numbers : FuncData
  f__law_drawn : Addr
  fd__law_drawn : FuncData
  f__law_symbols : Addr
  fd__law_symbols : FuncData
  f__law_roots : Addr
  fd__law_roots : FuncData
  f__law_sizes : Addr
  fd__law_sizes : FuncData
  f__law_texts : Addr
  fd__law_texts : FuncData
  f__law_scan : Addr
  fd__law_scan : FuncData
  f__law_edges : Addr
  fd__law_edges : FuncData
  f__law_counts : Addr
  fd__law_counts : FuncData
  f__law_word : Addr
  fd__law_word : FuncData
  f__law_power : Addr
  fd__law_power : FuncData
  f__law_known : Addr
  fd__law_known : FuncData
  FI : Fun K "__init__" "HouseError.__init__" s_init fI fdI
  bdI : Binds K fdI n_init []
  tI : PySem.W.typeIn K (.ref fI) = some (.type "function")
  b_ValueError : mg "ValueError" = none
  vV : PySem.W.findCls K (.type "ValueError") (.type "type") "__init__" = some (.val (.builtin "ValueError.__init__"))
  E_HouseError : ErrF K mg "HouseError" C_HouseError fI
  K_HouseError : ExK K C_HouseError
  E_OutOfRange : ErrF K mg "OutOfRange" C_OutOfRange fI
  K_OutOfRange : ExK K C_OutOfRange
  x_HouseError_HouseError : PySem.W.exmOne K (.ref C_HouseError) (.ref C_HouseError) = some true
  x_OutOfRange_HouseError : PySem.W.exmOne K (.ref C_OutOfRange) (.ref C_HouseError) = some true
  i_HouseError_OutOfRange : PySem.W.kitOne K (.ref C_HouseError) (.ref C_OutOfRange) = some false
  i_OutOfRange_OutOfRange : PySem.W.kitOne K (.ref C_OutOfRange) (.ref C_OutOfRange) = some true
  F_check_symbol : Fun K "check_symbol" "check_symbol" s_check_symbol f_check_symbol fd_check_symbol
  bd_check_symbol : Binds K fd_check_symbol p_check_symbol []
  m_check_symbol : mg "check_symbol" = some (.ref f_check_symbol)
  k_check_symbol : PySem.W.keepIn K (.ref f_check_symbol) = true
  F_match_behind : Fun K "match_behind" "match_behind" s_match_behind f_match_behind fd_match_behind
  bd_match_behind : Binds K fd_match_behind p_match_behind []
  m_match_behind : mg "match_behind" = some (.ref f_match_behind)
  k_match_behind : PySem.W.keepIn K (.ref f_match_behind) = true
  F_meetings : Fun K "meetings" "meetings" s_meetings f_meetings fd_meetings
  bd_meetings : Binds K fd_meetings p_meetings []
  m_meetings : mg "meetings" = some (.ref f_meetings)
  k_meetings : PySem.W.keepIn K (.ref f_meetings) = true
  F_count_in : Fun K "count_in" "count_in" s_count_in f_count_in fd_count_in
  bd_count_in : Binds K fd_count_in p_count_in []
  m_count_in : mg "count_in" = some (.ref f_count_in)
  k_count_in : PySem.W.keepIn K (.ref f_count_in) = true
  F_count_of : Fun K "count_of" "count_of" s_count_of f_count_of fd_count_of
  bd_count_of : Binds K fd_count_of p_count_of []
  m_count_of : mg "count_of" = some (.ref f_count_of)
  k_count_of : PySem.W.keepIn K (.ref f_count_of) = true
  F__law_numbers : Fun K "_law_numbers" "_law_numbers" s__law_numbers f__law_numbers fd__law_numbers
  bd__law_numbers : Binds K fd__law_numbers p__law_numbers []
  m__law_numbers : mg "_law_numbers" = some (.ref f__law_numbers)
  k__law_numbers : PySem.W.keepIn K (.ref f__law_numbers) = true
  F__law_drawn : Fun K "_law_drawn" "_law_drawn" s__law_drawn f__law_drawn fd__law_drawn
  bd__law_drawn : Binds K fd__law_drawn p__law_drawn []
  m__law_drawn : mg "_law_drawn" = some (.ref f__law_drawn)
  k__law_drawn : PySem.W.keepIn K (.ref f__law_drawn) = true
  F__law_symbols : Fun K "_law_symbols" "_law_symbols" s__law_symbols f__law_symbols fd__law_symbols
  bd__law_symbols : Binds K fd__law_symbols p__law_symbols []
  m__law_symbols : mg "_law_symbols" = some (.ref f__law_symbols)
  k__law_symbols : PySem.W.keepIn K (.ref f__law_symbols) = true
  F__law_roots : Fun K "_law_roots" "_law_roots" s__law_roots f__law_roots fd__law_roots
  bd__law_roots : Binds K fd__law_roots p__law_roots []
  m__law_roots : mg "_law_roots" = some (.ref f__law_roots)
  k__law_roots : PySem.W.keepIn K (.ref f__law_roots) = true
  F__law_sizes : Fun K "_law_sizes" "_law_sizes" s__law_sizes f__law_sizes fd__law_sizes
  bd__law_sizes : Binds K fd__law_sizes p__law_sizes []
  m__law_sizes : mg "_law_sizes" = some (.ref f__law_sizes)
  k__law_sizes : PySem.W.keepIn K (.ref f__law_sizes) = true
  F__law_texts : Fun K "_law_texts" "_law_texts" s__law_texts f__law_texts fd__law_texts
  bd__law_texts : Binds K fd__law_texts p__law_texts []
  m__law_texts : mg "_law_texts" = some (.ref f__law_texts)
  k__law_texts : PySem.W.keepIn K (.ref f__law_texts) = true
  F__law_scan : Fun K "_law_scan" "_law_scan" s__law_scan f__law_scan fd__law_scan
  bd__law_scan : Binds K fd__law_scan p__law_scan []
  m__law_scan : mg "_law_scan" = some (.ref f__law_scan)
  k__law_scan : PySem.W.keepIn K (.ref f__law_scan) = true
  F__law_edges : Fun K "_law_edges" "_law_edges" s__law_edges f__law_edges fd__law_edges
  bd__law_edges : Binds K fd__law_edges p__law_edges []
  m__law_edges : mg "_law_edges" = some (.ref f__law_edges)
  k__law_edges : PySem.W.keepIn K (.ref f__law_edges) = true
  F__law_counts : Fun K "_law_counts" "_law_counts" s__law_counts f__law_counts fd__law_counts
  bd__law_counts : Binds K fd__law_counts p__law_counts []
  m__law_counts : mg "_law_counts" = some (.ref f__law_counts)
  k__law_counts : PySem.W.keepIn K (.ref f__law_counts) = true
  F__law_word : Fun K "_law_word" "_law_word" s__law_word f__law_word fd__law_word
  bd__law_word : Binds K fd__law_word p__law_word []
  m__law_word : mg "_law_word" = some (.ref f__law_word)
  k__law_word : PySem.W.keepIn K (.ref f__law_word) = true
  F__law_power : Fun K "_law_power" "_law_power" s__law_power f__law_power fd__law_power
  bd__law_power : Binds K fd__law_power p__law_power []
  m__law_power : mg "_law_power" = some (.ref f__law_power)
  k__law_power : PySem.W.keepIn K (.ref f__law_power) = true
  F__law_known : Fun K "_law_known" "_law_known" s__law_known f__law_known fd__law_known
  bd__law_known : Binds K fd__law_known p__law_known []
  m__law_known : mg "_law_known" = some (.ref f__law_known)
  k__law_known : PySem.W.keepIn K (.ref f__law_known) = true
  b_abs : mg "abs" = none
  b_int : mg "int" = none
  b_isinstance : mg "isinstance" = none
  b_len : mg "len" = none
  b_max : mg "max" = none
  b_min : mg "min" = none
  b_range : mg "range" = none
  b_repr : mg "repr" = none
  b_sum : mg "sum" = none
section
variable {P : Program} {w : World} {K : PySem.W.Frag} {mg : Str → Option Value} {base : Heap}
theorem ok_init (T : Txt K mg) : FnOk P w K mg base (L2.CX P w) 1 T.fI T.fdI n_init (spInit K) :=
  T.FI.okX sc_init (fun vs H Q E h => by obtain ⟨_, _, _, rfl, _⟩ := h; rfl) fun cdv A outer s H vs Q E hr h => by
    obtain ⟨a, C, v, rfl, hC, hn, ha, k⟩ := h
    refine ⟨_, pss_cons (ps_expr (pe_veinit (pl := _) rfl T.b_ValueError T.vV (pa_cons (pv 0) (pa_cons pe_str pa_nil)))) (pss_one (ps_ost (pv 0) (pv 1))), ?_⟩
    exact ⟨_, rfl, a, C, _, rfl, Nat.succ_le_of_lt (Nat.zero_lt_succ 999), hC, ha, _, rfl, _, rfl, a, C, rfl, hC, hn, .inl ⟨ha, fun dx h1 h2 => k dx h1 h2⟩⟩
theorem hh_HouseError (T : Txt K mg) : ∀ cn b, h_HouseError cn = some b → ∀ cls, mg cn = some cls → PySem.W.exmOne K cls (.ref T.C_HouseError) = some b := by
  intro cn b h cls hm; unfold h_HouseError at h
  split at h; · rename_i e; subst e; cases h; rw [T.E_HouseError.g] at hm; cases hm; exact T.x_HouseError_HouseError
  split at h; · rename_i e; subst e; cases h; rw [T.E_OutOfRange.g] at hm; cases hm; exact T.x_OutOfRange_HouseError
  cases h
theorem xk_HouseError (T : Txt K mg) : ∀ cn cls, h_HouseError cn = some true → mg cn = some cls → ∃ C, cls = .ref C ∧ ExK K C := by
  intro cn cls h hm; unfold h_HouseError at h
  split at h; · rename_i e; subst e; rw [T.E_HouseError.g] at hm; cases hm; exact ⟨_, rfl, T.K_HouseError⟩
  split at h; · rename_i e; subst e; rw [T.E_OutOfRange.g] at hm; cases hm; exact ⟨_, rfl, T.K_OutOfRange⟩
  cases h
theorem kit_HouseError_OutOfRange (T : Txt K mg) : ∀ cn cls, h_HouseError cn = some true → mg cn = some cls → ∀ C, cls = .ref C → PySem.W.kitOne K (.ref C) (.ref T.C_OutOfRange) = some (isub_OutOfRange cn) := by
  intro cn cls h hm C hC; subst hC; unfold h_HouseError at h
  split at h; · rename_i e; subst e; rw [T.E_HouseError.g] at hm; cases hm; exact T.i_HouseError_OutOfRange
  split at h; · rename_i e; subst e; rw [T.E_OutOfRange.g] at hm; cases hm; exact T.i_OutOfRange_OutOfRange
  cases h
set_option maxHeartbeats 4000000 in
theorem ok_check_symbol (T : Txt K mg) : FnOk P w K mg base (L2.CX P w) 3 T.f_check_symbol T.fd_check_symbol p_check_symbol (spD .pl mg 2 m_check_symbol) :=
  DL.Fun.okD (M1 := _) (k := 2) T.F_check_symbol sc_check_symbol (by decide) fun cdv A outer s H E hr =>
    have S := sc_check_symbol; have tk := @tkX P w K mg base n_check_symbol "check_symbol" (defScope s_check_symbol) T.f_check_symbol cdv A outer s H E; have po := @poX P w K mg base n_check_symbol "check_symbol" (defScope s_check_symbol) T.f_check_symbol cdv A outer s H E
    (dss_one (ds_if rfl (dt_not (dt_chain op_le op_lt b2_le b2_lt de_int (de_var (pv 1) rfl) (de_callB call_len cb_len rfl T.b_len bt_len (da_consC (de_ix (de_var (pv 0) rfl) de_int (fun _ _ => rfl)) da_nil)))) (dss_one (ds_raise rfl T.E_OutOfRange T.tI (ok_init T) (hr.mono (by decide)) T.bdI tk rfl rfl T.E_OutOfRange.g (de_var (pv 1) rfl))) dss_nil))
set_option maxHeartbeats 4000000 in
theorem ok_match_behind (T : Txt K mg) : FnOk P w K mg base (L2.CX P w) 1 T.f_match_behind T.fd_match_behind p_match_behind (spD .pl mg 3 m_match_behind) :=
  DL.Fun.okD (M1 := []) (k := 0) T.F_match_behind sc_match_behind (by decide) fun cdv A outer s H E hr =>
    have S := sc_match_behind; have tk := @tkX P w K mg base n_match_behind "match_behind" (defScope s_match_behind) T.f_match_behind cdv A outer s H E; have po := @poX P w K mg base n_match_behind "match_behind" (defScope s_match_behind) T.f_match_behind cdv A outer s H E
    (dss_cons (ds_set rfl S.nd rfl (Or.inl rfl) (de_add (de_sl (de_var (pv 0) rfl) do_none (do_some (de_var (pv 1) rfl))) (de_var (pv 2) rfl))) (dss_cons (ds_set rfl S.nd rfl (Or.inl rfl) (de_callB (call_min2 rfl) cb_min rfl T.b_min bt_min (da_consC (de_callB call_len cb_len rfl T.b_len bt_len (da_consC (de_var (pv 0) rfl) da_nil)) (da_consC (de_callB call_len cb_len rfl T.b_len bt_len (da_consC (de_var (pv 3) rfl) da_nil)) da_nil)))) (dss_cons (ds_while wfuel rfl po (dt_ne hr.units (de_sl (de_var (pv 3) rfl) (do_some (de_sub (de_callB call_len cb_len rfl T.b_len bt_len (da_consC (de_var (pv 3) rfl) da_nil)) (de_var (pv 4) rfl))) do_none) (de_sl (de_var (pv 0) rfl) do_none (do_some (de_var (pv 4) rfl)))) (dss_one (ds_augG rfl rfl (fun te h => ps_aug S.nd rfl (Or.inl rfl) h ip_sub) i2_sub de_int))) (dss_one (ds_ret rfl rfl (de_var (pv 4) rfl))))))
set_option maxHeartbeats 4000000 in
theorem ok_meetings (T : Txt K mg) : FnOk P w K mg base (L2.CX P w) 2 T.f_meetings T.fd_meetings p_meetings (spD .fr mg 2 m_meetings) :=
  DL.Fun.okD (M1 := []) (k := 1) T.F_meetings sc_meetings (by decide) fun cdv A outer s H E hr =>
    have S := sc_meetings; have tk := @tkX P w K mg base n_meetings "meetings" (defScope s_meetings) T.f_meetings cdv A outer s H E; have po := @poX P w K mg base n_meetings "meetings" (defScope s_meetings) T.f_meetings cdv A outer s H E
    (dss_cons (ds_setO rfl S.nd rfl (Or.inl rfl) (de_list da_nil)) (dss_cons (ds_for rfl po rfl (di_seq (de_ix (de_var (pv 0) rfl) de_int (fun _ _ => rfl))) (dg_name (i := 3) S.nd rfl (Or.inl rfl)) (dss_cons (ds_setO rfl S.nd rfl (Or.inl rfl) (de_list da_nil)) (dss_cons (ds_for rfl po rfl (di_range1 rfl T.b_range (de_add (de_callB call_len cb_len rfl T.b_len bt_len (da_consC (de_var (pv 1) rfl) da_nil)) de_int)) (dg_name (i := 5) S.nd rfl (Or.inl rfl)) (dss_cons (ds_if rfl (dt_eq hr.units (de_ix (de_var (pv 3) rfl) de_int (fun _ _ => rfl)) de_str) (dss_cons (ds_set rfl S.nd rfl (Or.inl rfl) (de_call (ok_match_behind T) (hr.mono (by decide)) rfl T.m_match_behind T.k_match_behind T.bd_match_behind tk (da_cons (de_var (pv 1) rfl) (da_cons (de_var (pv 5) rfl) (da_cons (de_ix (de_var (pv 3) rfl) de_int (fun _ _ => rfl)) da_nil))) (fun env ds h => by obtain ⟨_, r0, rfl, h0⟩ := aLen_cons h; obtain ⟨_, r1, rfl, h1⟩ := aLen_cons h0; obtain ⟨_, r2, rfl, h2⟩ := aLen_cons h1; cases h2; rfl))) (dss_one (ds_append rfl rfl (pv 4) (de_tup (da_cons (de_var (pv 6) rfl) (da_cons (de_callTy call_int1 cb_int rfl T.b_int bt_int (da_consC (de_eq hr.units (de_var (pv 6) rfl) (de_callB call_len cb_len rfl T.b_len bt_len (da_consC (de_var (pv 1) rfl) da_nil))) da_nil)) da_nil)))))) (dss_cons (ds_asg rfl (de_ix (de_ix (de_varO (pv 2) rfl) (de_ix (de_var (pv 3) rfl) de_int (fun _ _ => rfl)) (fun _ _ => rfl)) (de_var (pv 5) rfl) (fun _ _ => rfl)) (dg_tup rfl (dgs_cons (dg_name (i := 7) S.nd rfl (Or.inl rfl)) (dgs_cons (dg_name (i := 8) S.nd rfl (Or.inl rfl)) dgs_nil)))) (dss_cons (ds_asg rfl (de_ix (de_ix (de_varO (pv 2) rfl) (de_ix (de_var (pv 3) rfl) de_int (fun _ _ => rfl)) (fun _ _ => rfl)) (de_var (pv 7) rfl) (fun _ _ => rfl)) (dg_tup rfl (dgs_cons (dg_name (i := 6) S.nd rfl (Or.inl rfl)) (dgs_cons (dg_name (i := 9) S.nd rfl (Or.inl rfl)) dgs_nil)))) (dss_cons (ds_append rfl rfl (pv 4) (de_tup (da_cons (de_var (pv 6) rfl) (da_cons (de_add (de_var (pv 8) rfl) (de_var (pv 9) rfl)) da_nil)))) (dss_weakR (N := [.fz, .fz, .ow, .fz, .ow, .fz, .fz, .un, .un, .un]) rfl dss_nil))))) (dss_weakR (N := [.fz, .fz, .ow, .fz, .ow, .un, .un, .un, .un, .un]) rfl dss_nil))) (dss_freeze 4 rfl (dss_cons (ds_append rfl rfl (pv 2) (de_var (pv 4) rfl)) (dss_weakR (N := [.fz, .fz, .ow, .un, .un, .un, .un, .un, .un, .un]) rfl dss_nil)))))) (dss_one (ds_retO (i := 2) rfl rfl (pv 2)))))
set_option maxHeartbeats 4000000 in
theorem ok_count_in (T : Txt K mg) : FnOk P w K mg base (L2.CX P w) 4 T.f_count_in T.fd_count_in p_count_in (spD .pl mg 3 m_count_in) :=
  DL.Fun.okD (M1 := []) (k := 3) T.F_count_in sc_count_in (by decide) fun cdv A outer s H E hr =>
    have S := sc_count_in; have tk := @tkX P w K mg base n_count_in "count_in" (defScope s_count_in) T.f_count_in cdv A outer s H E; have po := @poX P w K mg base n_count_in "count_in" (defScope s_count_in) T.f_count_in cdv A outer s H E
    (dss_cons (ds_expr rfl (de_call (ok_check_symbol T) (hr.mono (by decide)) rfl T.m_check_symbol T.k_check_symbol T.bd_check_symbol tk (da_cons (de_var (pv 0) rfl) (da_cons (de_var (pv 1) rfl) da_nil)) (fun env ds h => by obtain ⟨_, r0, rfl, h0⟩ := aLen_cons h; obtain ⟨_, r1, rfl, h1⟩ := aLen_cons h0; cases h1; rfl))) (dss_one (ds_ret rfl rfl (de_ix (de_ix (de_ix (de_call (ok_meetings T) (hr.mono (by decide)) rfl T.m_meetings T.k_meetings T.bd_meetings tk (da_cons (de_var (pv 0) rfl) (da_cons (de_var (pv 2) rfl) da_nil)) (fun env ds h => by obtain ⟨_, r0, rfl, h0⟩ := aLen_cons h; obtain ⟨_, r1, rfl, h1⟩ := aLen_cons h0; cases h1; rfl)) (de_var (pv 1) rfl) (fun _ _ => rfl)) de_int (fun _ _ => rfl)) de_int (fun _ _ => rfl)))))
set_option maxHeartbeats 4000000 in
theorem ok_count_of (T : Txt K mg) : FnOk P w K mg base (L2.CX P w) 3 T.f_count_of T.fd_count_of p_count_of (spD .pl mg 2 m_count_of) :=
  DL.Fun.okD (M1 := []) (k := 2) T.F_count_of sc_count_of (by decide) fun cdv A outer s H E hr =>
    have S := sc_count_of; have tk := @tkX P w K mg base n_count_of "count_of" (defScope s_count_of) T.f_count_of cdv A outer s H E; have po := @poX P w K mg base n_count_of "count_of" (defScope s_count_of) T.f_count_of cdv A outer s H E
    (dss_cons (ds_set rfl S.nd rfl (Or.inr rfl) (DE.pl (de_call (ok_meetings T) (hr.mono (by decide)) rfl T.m_meetings T.k_meetings T.bd_meetings tk (da_cons (de_var (pv 0) rfl) (da_cons (de_var (pv 1) rfl) da_nil)) (fun env ds h => by obtain ⟨_, r0, rfl, h0⟩ := aLen_cons h; obtain ⟨_, r1, rfl, h1⟩ := aLen_cons h0; cases h1; rfl)))) (dss_one (ds_ret rfl rfl (de_callB (cr_sum rfl) cb_sum rfl T.b_sum bt_sum (da_consC (de_lc (own := [("root", 3)]) rfl S.nd (by decide) (DIS.of (di_seq (de_ix (de_var (pv 0) rfl) de_int (fun _ _ => rfl)))) (blkOk_by (N := n_count_of) (sc := (defScope s_count_of)) (by decide +kernel)) (fun _ _ _ _ _ => (dg_name (i := 3) S.nd rfl (Or.inl rfl))) (fun _ _ _ _ _ => (dts_one (dt_notN (de_var (pv 3) rfl)))) (fun _ _ _ _ _ => (de_ix (de_ix (de_ix (de_var (pv 2) rfl) (de_var (pv 3) rfl) (fun _ _ => rfl)) de_int (fun _ _ => rfl)) de_int (fun _ _ => rfl)))) da_nil)))))
set_option maxHeartbeats 4000000 in
theorem ok__law_numbers (T : Txt K mg) : FnOk P w K mg base (L2.CX P w) 1 T.f__law_numbers T.fd__law_numbers p__law_numbers (spD .fr mg 2 m__law_numbers) :=
  DL.Fun.okD (M1 := []) (k := 0) T.F__law_numbers sc__law_numbers (by decide) fun cdv A outer s H E hr =>
    have S := sc__law_numbers; have tk := @tkX P w K mg base n__law_numbers "_law_numbers" (defScope s__law_numbers) T.f__law_numbers cdv A outer s H E; have po := @poX P w K mg base n__law_numbers "_law_numbers" (defScope s__law_numbers) T.f__law_numbers cdv A outer s H E
    (dss_cons (ds_setO rfl S.nd rfl (Or.inl rfl) (de_cat (de_lc (own := [("cell", 7)]) rfl S.nd (by decide) (DIS.of (di_seq (de_sl (de_var (pv 0) rfl) do_none (do_some de_int)))) (blkOk_by (N := n__law_numbers) (sc := (defScope s__law_numbers)) (by decide +kernel)) (fun _ _ _ _ _ => (dg_name (i := 7) S.nd rfl (Or.inl rfl))) (fun _ _ _ _ _ => dts_nil) (fun _ _ _ _ _ => (de_callB call_abs cb_abs rfl T.b_abs bt_abs (da_consC (de_var (pv 7) rfl) da_nil)))) (de_list (da_cons de_int da_nil)))) (dss_cons (ds_if rfl (dt_gt (de_callB call_len cb_len rfl T.b_len bt_len (da_consC (de_var (pv 0) rfl) da_nil)) de_int) (dss_one (ds_setO rfl S.nd rfl (Or.inl rfl) (de_slL (de_varO (pv 2) rfl) do_none (do_some (de_neg de_int))))) dss_nil) (dss_cons (ds_setLc (i := 3) rfl (own := [("cell", 7)]) rfl S.nd (by decide) (dis_own (de_varO (pv 2) rfl)) (blkOk_by (N := n__law_numbers) (sc := (defScope s__law_numbers)) (by decide +kernel)) (fun _ _ _ _ _ => (dg_name (i := 7) S.nd rfl (Or.inl rfl))) (fun _ _ _ _ _ => dts_nil) (fun _ _ _ _ _ => (de_mod (de_callTy call_int1 cb_int rfl T.b_int bt_int (da_consC (de_add (de_mul (de_var (pv 7) rfl) de_int) de_int) da_nil)) de_int))) (dss_cons (ds_setO rfl S.nd rfl (Or.inl rfl) (de_list da_nil)) (dss_cons (ds_for rfl po rfl (di_range1 rfl T.b_range (de_var (pv 1) rfl)) (dg_name (i := 5) S.nd rfl (Or.inl rfl)) (dss_cons (ds_set rfl S.nd rfl (Or.inl rfl) (de_mod (de_callTy call_int1 cb_int rfl T.b_int bt_int (da_consC (de_var (pv 5) rfl) da_nil)) (de_callB call_len cb_len rfl T.b_len bt_len (da_consC (de_varO (pv 2) rfl) da_nil)))) (dss_cons (ds_if rfl (dt_ge (de_ix (de_varO (pv 2) rfl) (de_var (pv 6) rfl) (fun _ _ => rfl)) (de_pow de_int de_int)) (dss_cons (ds_append rfl rfl (pv 4) (de_mod (de_callTy call_int1 cb_int rfl T.b_int bt_int (da_consC (de_ix (de_varO (pv 2) rfl) (de_var (pv 6) rfl) (fun _ _ => rfl)) da_nil)) de_int)) (dss_one (ds_put rfl rfl (pv 2) (de_var (pv 6) rfl) (de_fdiv (de_ix (de_varO (pv 2) rfl) (de_var (pv 6) rfl) (fun _ _ => rfl)) de_int) (fun _ _ h1 h2 => pg_sub h1 h2 set_list)))) (dss_cons (ds_put rfl rfl (pv 3) (de_var (pv 6) rfl) (de_mod (de_callTy call_int1 cb_int rfl T.b_int bt_int (da_consC (de_add (de_add (de_mul (de_ix (de_varO (pv 3) rfl) (de_var (pv 6) rfl) (fun _ _ => rfl)) de_int) de_int) (de_mul de_int (de_var (pv 5) rfl))) da_nil)) de_int) (fun _ _ h1 h2 => pg_sub h1 h2 set_list)) (dss_one (ds_append rfl rfl (pv 4) (de_mod (de_callTy call_int1 cb_int rfl T.b_int bt_int (da_consC (de_add (de_ix (de_varO (pv 2) rfl) (de_var (pv 6) rfl) (fun _ _ => rfl)) (de_fdiv (de_ix (de_varO (pv 3) rfl) (de_var (pv 6) rfl) (fun _ _ => rfl)) de_int)) da_nil)) de_int))))) (dss_weakR (N := [.fz, .fz, .ow, .ow, .ow, .un, .un, .un]) rfl dss_nil)))) (dss_one (ds_retO (i := 4) rfl rfl (pv 4))))))))
set_option maxHeartbeats 4000000 in
theorem ok__law_drawn (T : Txt K mg) : FnOk P w K mg base (L2.CX P w) 1 T.f__law_drawn T.fd__law_drawn p__law_drawn (spD .pl mg 2 m__law_drawn) :=
  DL.Fun.okD (M1 := []) (k := 0) T.F__law_drawn sc__law_drawn (by decide) fun cdv A outer s H E hr =>
    have S := sc__law_drawn; have tk := @tkX P w K mg base n__law_drawn "_law_drawn" (defScope s__law_drawn) T.f__law_drawn cdv A outer s H E; have po := @poX P w K mg base n__law_drawn "_law_drawn" (defScope s__law_drawn) T.f__law_drawn cdv A outer s H E
    (dss_one (ds_ret rfl rfl (de_ix (de_var (pv 0) rfl) (de_mod (de_callTy call_int1 cb_int rfl T.b_int bt_int (da_consC (de_var (pv 1) rfl) da_nil)) (de_callB call_len cb_len rfl T.b_len bt_len (da_consC (de_var (pv 0) rfl) da_nil))) (fun _ _ => rfl))))
set_option maxHeartbeats 4000000 in
theorem ok__law_symbols (T : Txt K mg) : FnOk P w K mg base (L2.CX P w) 2 T.f__law_symbols T.fd__law_symbols p__law_symbols (spD .fr mg 3 m__law_symbols) :=
  DL.Fun.okD (M1 := []) (k := 1) T.F__law_symbols sc__law_symbols (by decide) fun cdv A outer s H E hr =>
    have S := sc__law_symbols; have tk := @tkX P w K mg base n__law_symbols "_law_symbols" (defScope s__law_symbols) T.f__law_symbols cdv A outer s H E; have po := @poX P w K mg base n__law_symbols "_law_symbols" (defScope s__law_symbols) T.f__law_symbols cdv A outer s H E
    (dss_cons (ds_setLc (i := 3) rfl (own := [("letter", 9)]) rfl S.nd (by decide) (DIS.of (di_seq (de_ix (de_list (da_cons de_str (da_cons de_str (da_cons de_str (da_cons de_str da_nil))))) (de_mod (de_callTy call_int1 cb_int rfl T.b_int bt_int (da_consC (de_call (ok__law_drawn T) (hr.mono (by decide)) rfl T.m__law_drawn T.k__law_drawn T.bd__law_drawn tk (da_cons (de_var (pv 0) rfl) (da_cons (de_var (pv 1) rfl) da_nil)) (fun env ds h => by obtain ⟨_, r0, rfl, h0⟩ := aLen_cons h; obtain ⟨_, r1, rfl, h1⟩ := aLen_cons h0; cases h1; rfl)) da_nil)) de_int) (fun _ _ => rfl)))) (blkOk_by (N := n__law_symbols) (sc := (defScope s__law_symbols)) (by decide +kernel)) (fun _ _ _ _ _ => (dg_name (i := 9) S.nd rfl (Or.inl rfl))) (fun _ _ _ _ _ => dts_nil) (fun _ _ _ _ _ => (de_tup (da_cons de_str (da_cons (de_var (pv 9) rfl) da_nil))))) (dss_cons (ds_for rfl po rfl (di_range1 rfl T.b_range (de_mod (de_callTy call_int1 cb_int rfl T.b_int bt_int (da_consC (de_call (ok__law_drawn T) (hr.mono (by decide)) rfl T.m__law_drawn T.k__law_drawn T.bd__law_drawn tk (da_cons (de_var (pv 0) rfl) (da_cons (de_add (de_var (pv 1) rfl) de_int) da_nil)) (fun env ds h => by obtain ⟨_, r0, rfl, h0⟩ := aLen_cons h; obtain ⟨_, r1, rfl, h1⟩ := aLen_cons h0; cases h1; rfl)) da_nil)) (de_add (de_var (pv 2) rfl) de_int))) (dg_name (i := 4) S.nd rfl (Or.inl rfl)) (dss_cons (ds_set rfl S.nd rfl (Or.inl rfl) (de_call (ok__law_drawn T) (hr.mono (by decide)) rfl T.m__law_drawn T.k__law_drawn T.bd__law_drawn tk (da_cons (de_var (pv 0) rfl) (da_cons (de_add (de_add (de_var (pv 1) rfl) de_int) (de_var (pv 4) rfl)) da_nil)) (fun env ds h => by obtain ⟨_, r0, rfl, h0⟩ := aLen_cons h; obtain ⟨_, r1, rfl, h1⟩ := aLen_cons h0; cases h1; rfl))) (dss_cons (ds_set rfl S.nd rfl (Or.inl rfl) (de_mod (de_callTy call_int1 cb_int rfl T.b_int bt_int (da_consC (de_fdiv (de_var (pv 5) rfl) de_int) da_nil)) de_int)) (dss_cons (ds_set rfl S.nd rfl (Or.inl rfl) (de_ix (de_list (da_cons (de_mod (de_callTy call_int1 cb_int rfl T.b_int bt_int (da_consC (de_fdiv (de_var (pv 5) rfl) de_int) da_nil)) (de_callB call_len cb_len rfl T.b_len bt_len (da_consC (de_varO (pv 3) rfl) da_nil))) (da_cons (de_sub (de_callB call_len cb_len rfl T.b_len bt_len (da_consC (de_varO (pv 3) rfl) da_nil)) de_int) (da_cons (de_callB (call_max2 rfl) cb_max rfl T.b_max bt_max (da_consC de_int (da_consC (de_sub (de_callB call_len cb_len rfl T.b_len bt_len (da_consC (de_varO (pv 3) rfl) da_nil)) de_int) da_nil))) da_nil)))) (de_var (pv 6) rfl) (fun _ _ => rfl))) (dss_cons (ds_set rfl S.nd rfl (Or.inl rfl) (de_ix (de_list (da_cons (de_mod (de_callTy call_int1 cb_int rfl T.b_int bt_int (da_consC (de_fdiv (de_var (pv 5) rfl) de_int) da_nil)) (de_callB call_len cb_len rfl T.b_len bt_len (da_consC (de_varO (pv 3) rfl) da_nil))) (da_cons (de_sub (de_callB call_len cb_len rfl T.b_len bt_len (da_consC (de_varO (pv 3) rfl) da_nil)) de_int) (da_cons (de_callB (call_max2 rfl) cb_max rfl T.b_max bt_max (da_consC de_int (da_consC (de_sub (de_sub (de_callB call_len cb_len rfl T.b_len bt_len (da_consC (de_varO (pv 3) rfl) da_nil)) de_int) (de_mod (de_callTy call_int1 cb_int rfl T.b_int bt_int (da_consC (de_fdiv (de_var (pv 5) rfl) de_int) da_nil)) de_int)) da_nil))) da_nil)))) (de_mod (de_callTy call_int1 cb_int rfl T.b_int bt_int (da_consC (de_var (pv 5) rfl) da_nil)) de_int) (fun _ _ => rfl))) (dss_cons (ds_if rfl (dt_notIn (hr65 hr) (de_tup (da_cons de_str (da_cons (de_var (pv 7) rfl) (da_cons (de_var (pv 8) rfl) da_nil)))) (de_varO (pv 3) rfl)) (dss_one (ds_append rfl rfl (pv 3) (de_tup (da_cons de_str (da_cons (de_var (pv 7) rfl) (da_cons (de_var (pv 8) rfl) da_nil)))))) dss_nil) (dss_weakR (N := [.fz, .fz, .fz, .ow, .un, .un, .un, .un, .un, .un]) rfl dss_nil))))))) (dss_one (ds_retO (i := 3) rfl rfl (pv 3)))))
set_option maxHeartbeats 4000000 in
theorem ok__law_roots (T : Txt K mg) : FnOk P w K mg base (L2.CX P w) 2 T.f__law_roots T.fd__law_roots p__law_roots (spD .fr mg 3 m__law_roots) :=
  DL.Fun.okD (M1 := []) (k := 1) T.F__law_roots sc__law_roots (by decide) fun cdv A outer s H E hr =>
    have S := sc__law_roots; have tk := @tkX P w K mg base n__law_roots "_law_roots" (defScope s__law_roots) T.f__law_roots cdv A outer s H E; have po := @poX P w K mg base n__law_roots "_law_roots" (defScope s__law_roots) T.f__law_roots cdv A outer s H E
    (dss_cons (ds_setO rfl S.nd rfl (Or.inl rfl) (de_list da_nil)) (dss_cons (ds_for rfl po rfl (di_range1 rfl T.b_range (de_mod (de_callTy call_int1 cb_int rfl T.b_int bt_int (da_consC (de_call (ok__law_drawn T) (hr.mono (by decide)) rfl T.m__law_drawn T.k__law_drawn T.bd__law_drawn tk (da_cons (de_var (pv 0) rfl) (da_cons (de_var (pv 1) rfl) da_nil)) (fun env ds h => by obtain ⟨_, r0, rfl, h0⟩ := aLen_cons h; obtain ⟨_, r1, rfl, h1⟩ := aLen_cons h0; cases h1; rfl)) da_nil)) de_int)) (dg_name (i := 4) S.nd rfl (Or.inl rfl)) (dss_cons (ds_set rfl S.nd rfl (Or.inl rfl) (de_call (ok__law_drawn T) (hr.mono (by decide)) rfl T.m__law_drawn T.k__law_drawn T.bd__law_drawn tk (da_cons (de_var (pv 0) rfl) (da_cons (de_add (de_add (de_var (pv 1) rfl) de_int) (de_var (pv 4) rfl)) da_nil)) (fun env ds h => by obtain ⟨_, r0, rfl, h0⟩ := aLen_cons h; obtain ⟨_, r1, rfl, h1⟩ := aLen_cons h0; cases h1; rfl))) (dss_cons (ds_append rfl rfl (pv 3) (de_ix (de_list (da_cons (de_mod (de_callTy call_int1 cb_int rfl T.b_int bt_int (da_consC (de_fdiv (de_var (pv 5) rfl) de_int) da_nil)) (de_callB call_len cb_len rfl T.b_len bt_len (da_consC (de_var (pv 2) rfl) da_nil))) (da_cons de_non da_nil))) (de_callTy call_int1 cb_int rfl T.b_int bt_int (da_consC (de_eq hr.units (de_mod (de_callTy call_int1 cb_int rfl T.b_int bt_int (da_consC (de_var (pv 5) rfl) da_nil)) de_int) de_int) da_nil)) (fun _ _ => rfl))) (dss_weakR (N := [.fz, .fz, .fz, .ow, .un, .un]) rfl dss_nil)))) (dss_one (ds_retO (i := 3) rfl rfl (pv 3)))))
set_option maxHeartbeats 4000000 in
theorem ok__law_sizes (T : Txt K mg) : FnOk P w K mg base (L2.CX P w) 1 T.f__law_sizes T.fd__law_sizes p__law_sizes (spD .fr mg 1 m__law_sizes) :=
  DL.Fun.okD (M1 := []) (k := 0) T.F__law_sizes sc__law_sizes (by decide) fun cdv A outer s H E hr =>
    have S := sc__law_sizes; have tk := @tkX P w K mg base n__law_sizes "_law_sizes" (defScope s__law_sizes) T.f__law_sizes cdv A outer s H E; have po := @poX P w K mg base n__law_sizes "_law_sizes" (defScope s__law_sizes) T.f__law_sizes cdv A outer s H E
    (dss_cons (ds_setO rfl S.nd rfl (Or.inr rfl) (de_list da_nil)) (dss_cons (ds_for rfl po rfl (di_seq (de_var (pv 0) rfl)) (dg_name (i := 2) S.nd rfl (Or.inl rfl)) (dss_cons (ds_append rfl rfl (pv 1) (de_ix (de_list (da_cons de_int (da_cons (de_callB (cr_sum rfl) cb_sum rfl T.b_sum bt_sum (da_consC (de_lc (own := [("k", 3)]) rfl S.nd (by decide) (DIS.of (di_seq (de_sl (de_var (pv 2) rfl) (do_some de_int) do_none))) (blkOk_by (N := n__law_sizes) (sc := (defScope s__law_sizes)) (by decide +kernel)) (fun _ _ _ _ _ => (dg_name (i := 3) S.nd rfl (Or.inl rfl))) (fun _ _ _ _ _ => (dts_one (dt_val (de_isi rfl T.b_isinstance bt_isinstance (de_var (pv 3) rfl) (pe_bltn rfl T.b_int bt_int rfl))))) (fun _ _ _ _ _ => (de_ix (de_varO (pv 1) rfl) (de_var (pv 3) rfl) (fun _ _ => rfl)))) da_nil)) da_nil))) (de_callTy call_int1 cb_int rfl T.b_int bt_int (da_consC (de_eq hr.units (de_ix (de_var (pv 2) rfl) de_int (fun _ _ => rfl)) de_str) da_nil)) (fun _ _ => rfl))) (dss_weakR (N := [.fz, .ow, .un, .un]) rfl dss_nil))) (dss_one (ds_retO (i := 1) rfl rfl (pv 1)))))
set_option maxHeartbeats 4000000 in
theorem ok__law_texts (T : Txt K mg) : FnOk P w K mg base (L2.CX P w) 2 T.f__law_texts T.fd__law_texts p__law_texts (spD .fr mg 2 m__law_texts) :=
  DL.Fun.okD (M1 := []) (k := 1) T.F__law_texts sc__law_texts (by decide) fun cdv A outer s H E hr =>
    have S := sc__law_texts; have tk := @tkX P w K mg base n__law_texts "_law_texts" (defScope s__law_texts) T.f__law_texts cdv A outer s H E; have po := @poX P w K mg base n__law_texts "_law_texts" (defScope s__law_texts) T.f__law_texts cdv A outer s H E
    (dss_cons (ds_setO rfl S.nd rfl (Or.inl rfl) (de_list da_nil)) (dss_cons (ds_set rfl S.nd rfl (Or.inl rfl) (DE.pl (de_call (ok__law_sizes T) (hr.mono (by decide)) rfl T.m__law_sizes T.k__law_sizes T.bd__law_sizes tk (da_cons (de_var (pv 0) rfl) da_nil) (fun env ds h => by obtain ⟨_, r0, rfl, h0⟩ := aLen_cons h; cases h0; rfl)))) (dss_cons (ds_for rfl po rfl (di_range1 rfl T.b_range (de_callB call_len cb_len rfl T.b_len bt_len (da_consC (de_var (pv 0) rfl) da_nil))) (dg_name (i := 4) S.nd rfl (Or.inl rfl)) (dss_cons (ds_set rfl S.nd rfl (Or.inl rfl) de_non) (dss_cons (ds_if rfl (dt_eq hr.units (de_ix (de_ix (de_var (pv 0) rfl) (de_var (pv 4) rfl) (fun _ _ => rfl)) de_int (fun _ _ => rfl)) de_str) (dss_one (ds_set rfl S.nd rfl (Or.inl rfl) (de_ix (de_ix (de_var (pv 0) rfl) (de_var (pv 4) rfl) (fun _ _ => rfl)) de_int (fun _ _ => rfl)))) (dss_one (ds_if rfl (dt_le (de_ix (de_var (pv 3) rfl) (de_var (pv 4) rfl) (fun _ _ => rfl)) (de_var (pv 1) rfl)) (dss_one (ds_set rfl S.nd rfl (Or.inl rfl) (de_add (de_ix (de_varO (pv 2) rfl) (de_ix (de_ix (de_var (pv 0) rfl) (de_var (pv 4) rfl) (fun _ _ => rfl)) de_int (fun _ _ => rfl)) (fun _ _ => rfl)) (de_ix (de_varO (pv 2) rfl) (de_ix (de_ix (de_var (pv 0) rfl) (de_var (pv 4) rfl) (fun _ _ => rfl)) de_int (fun _ _ => rfl)) (fun _ _ => rfl))))) dss_nil))) (dss_cons (ds_append rfl rfl (pv 2) (de_var (pv 5) rfl)) (dss_weakR (N := [.fz, .fz, .ow, .fz, .un, .un]) rfl dss_nil))))) (dss_one (ds_retO (i := 2) rfl rfl (pv 2))))))
set_option maxHeartbeats 4000000 in
theorem ok__law_scan (T : Txt K mg) : FnOk P w K mg base (L2.CX P w) 1 T.f__law_scan T.fd__law_scan p__law_scan (spD .pl mg 2 m__law_scan) :=
  DL.Fun.okD (M1 := []) (k := 0) T.F__law_scan sc__law_scan (by decide) fun cdv A outer s H E hr =>
    have S := sc__law_scan; have tk := @tkX P w K mg base n__law_scan "_law_scan" (defScope s__law_scan) T.f__law_scan cdv A outer s H E; have po := @poX P w K mg base n__law_scan "_law_scan" (defScope s__law_scan) T.f__law_scan cdv A outer s H E
    (dss_one (ds_ret rfl rfl (de_callB call_len cb_len rfl T.b_len bt_len (da_consC (de_lc (own := [("k", 2)]) rfl S.nd (by decide) (DIS.of (di_range1 rfl T.b_range (de_add (de_sub (de_callB call_len cb_len rfl T.b_len bt_len (da_consC (de_var (pv 0) rfl) da_nil)) (de_callB call_len cb_len rfl T.b_len bt_len (da_consC (de_var (pv 1) rfl) da_nil))) de_int))) (blkOk_by (N := n__law_scan) (sc := (defScope s__law_scan)) (by decide +kernel)) (fun _ _ _ _ _ => (dg_name (i := 2) S.nd rfl (Or.inl rfl))) (fun _ _ _ _ _ => (dts_one (dt_eq hr.units (de_sl (de_var (pv 0) rfl) (do_some (de_var (pv 2) rfl)) (do_some (de_add (de_var (pv 2) rfl) (de_callB call_len cb_len rfl T.b_len bt_len (da_consC (de_var (pv 1) rfl) da_nil))))) (de_var (pv 1) rfl)))) (fun _ _ _ _ _ => (de_var (pv 2) rfl))) da_nil))))
set_option maxHeartbeats 4000000 in
theorem ok__law_edges (T : Txt K mg) : FnOk P w K mg base (L2.CX P w) 1 T.f__law_edges T.fd__law_edges p__law_edges (spD .pl mg 2 m__law_edges) :=
  DL.Fun.okD (M1 := []) (k := 0) T.F__law_edges sc__law_edges (by decide) fun cdv A outer s H E hr =>
    have S := sc__law_edges; have tk := @tkX P w K mg base n__law_edges "_law_edges" (defScope s__law_edges) T.f__law_edges cdv A outer s H E; have po := @poX P w K mg base n__law_edges "_law_edges" (defScope s__law_edges) T.f__law_edges cdv A outer s H E
    (dss_cons (ds_setO rfl S.nd rfl (Or.inl rfl) (de_list da_nil)) (dss_cons (ds_setO rfl S.nd rfl (Or.inl rfl) (de_list da_nil)) (dss_cons (ds_for rfl po rfl (di_seq (de_var (pv 0) rfl)) (dg_name (i := 4) S.nd rfl (Or.inl rfl)) (dss_cons (ds_if rfl (dt_eq hr.units (de_ix (de_var (pv 4) rfl) de_int (fun _ _ => rfl)) de_str) (dss_cons (ds_append rfl rfl (pv 2) (de_ix (de_var (pv 4) rfl) de_int (fun _ _ => rfl))) (dss_one (ds_append rfl rfl (pv 3) (de_ix (de_var (pv 4) rfl) de_int (fun _ _ => rfl))))) (dss_cons (ds_append rfl rfl (pv 2) (de_sl (de_add (de_ix (de_varO (pv 2) rfl) (de_ix (de_var (pv 4) rfl) de_int (fun _ _ => rfl)) (fun _ _ => rfl)) (de_ix (de_varO (pv 2) rfl) (de_ix (de_var (pv 4) rfl) de_int (fun _ _ => rfl)) (fun _ _ => rfl))) do_none (do_some (de_var (pv 1) rfl)))) (dss_one (ds_append rfl rfl (pv 3) (de_sl (de_add (de_ix (de_varO (pv 3) rfl) (de_ix (de_var (pv 4) rfl) de_int (fun _ _ => rfl)) (fun _ _ => rfl)) (de_ix (de_varO (pv 3) rfl) (de_ix (de_var (pv 4) rfl) de_int (fun _ _ => rfl)) (fun _ _ => rfl))) (do_some (de_neg (de_var (pv 1) rfl))) do_none))))) (dss_weakR (N := [.fz, .fz, .ow, .ow, .un]) rfl dss_nil))) (dss_freeze 2 rfl (dss_freeze 3 rfl (dss_one (ds_ret rfl rfl (de_tup (da_cons (de_var (pv 2) rfl) (da_cons (de_var (pv 3) rfl) da_nil))))))))))
set_option maxHeartbeats 4000000 in
theorem ok__law_counts (T : Txt K mg) : FnOk P w K mg base (L2.CX P w) 2 T.f__law_counts T.fd__law_counts p__law_counts (spD .fr mg 2 m__law_counts) :=
  DL.Fun.okD (M1 := []) (k := 1) T.F__law_counts sc__law_counts (by decide) fun cdv A outer s H E hr =>
    have S := sc__law_counts; have tk := @tkX P w K mg base n__law_counts "_law_counts" (defScope s__law_counts) T.f__law_counts cdv A outer s H E; have po := @poX P w K mg base n__law_counts "_law_counts" (defScope s__law_counts) T.f__law_counts cdv A outer s H E
    (dss_cons (ds_set rfl S.nd rfl (Or.inl rfl) (de_sub (de_callB call_len cb_len rfl T.b_len bt_len (da_consC (de_var (pv 1) rfl) da_nil)) de_int)) (dss_cons (ds_asg rfl (de_call (ok__law_edges T) (hr.mono (by decide)) rfl T.m__law_edges T.k__law_edges T.bd__law_edges tk (da_cons (de_var (pv 0) rfl) (da_cons de_int da_nil)) (fun env ds h => by obtain ⟨_, r0, rfl, h0⟩ := aLen_cons h; obtain ⟨_, r1, rfl, h1⟩ := aLen_cons h0; cases h1; rfl)) (dg_tup rfl (dgs_cons (dg_name (i := 5) S.nd rfl (Or.inl rfl)) (dgs_cons (dg_name (i := 6) S.nd rfl (Or.inl rfl)) dgs_nil)))) (dss_cons (ds_setO rfl S.nd rfl (Or.inl rfl) (de_list da_nil)) (dss_cons (ds_for rfl po rfl (di_seq (de_var (pv 0) rfl)) (dg_name (i := 4) S.nd rfl (Or.inl rfl)) (dss_cons (ds_if rfl (dt_eq hr.units (de_ix (de_var (pv 4) rfl) de_int (fun _ _ => rfl)) de_str) (dss_one (ds_append rfl rfl (pv 3) (de_callTy call_int1 cb_int rfl T.b_int bt_int (da_consC (de_eq hr.units (de_ix (de_var (pv 4) rfl) de_int (fun _ _ => rfl)) (de_var (pv 1) rfl)) da_nil)))) (dss_cons (ds_set rfl S.nd rfl (Or.inl rfl) (de_sl (de_ix (de_var (pv 6) rfl) (de_ix (de_var (pv 4) rfl) de_int (fun _ _ => rfl)) (fun _ _ => rfl)) (do_some (de_callB (call_max2 rfl) cb_max rfl T.b_max bt_max (da_consC de_int (da_consC (de_sub (de_callB call_len cb_len rfl T.b_len bt_len (da_consC (de_ix (de_var (pv 6) rfl) (de_ix (de_var (pv 4) rfl) de_int (fun _ _ => rfl)) (fun _ _ => rfl)) da_nil)) (de_var (pv 2) rfl)) da_nil)))) do_none)) (dss_cons (ds_append rfl rfl (pv 3) (de_add (de_add (de_ix (de_varO (pv 3) rfl) (de_ix (de_var (pv 4) rfl) de_int (fun _ _ => rfl)) (fun _ _ => rfl)) (de_ix (de_varO (pv 3) rfl) (de_ix (de_var (pv 4) rfl) de_int (fun _ _ => rfl)) (fun _ _ => rfl))) (de_call (ok__law_scan T) (hr.mono (by decide)) rfl T.m__law_scan T.k__law_scan T.bd__law_scan tk (da_cons (de_add (de_var (pv 7) rfl) (de_sl (de_ix (de_var (pv 5) rfl) (de_ix (de_var (pv 4) rfl) de_int (fun _ _ => rfl)) (fun _ _ => rfl)) do_none (do_some (de_var (pv 2) rfl)))) (da_cons (de_var (pv 1) rfl) da_nil)) (fun env ds h => by obtain ⟨_, r0, rfl, h0⟩ := aLen_cons h; obtain ⟨_, r1, rfl, h1⟩ := aLen_cons h0; cases h1; rfl)))) (dss_weakR (N := [.fz, .fz, .fz, .ow, .fz, .fz, .fz, .un]) rfl dss_nil)))) (dss_weakR (N := [.fz, .fz, .fz, .ow, .un, .fz, .fz, .un]) rfl dss_nil))) (dss_one (ds_retO (i := 3) rfl rfl (pv 3)))))))
set_option maxHeartbeats 4000000 in
theorem ok__law_word (T : Txt K mg) : FnOk P w K mg base (L2.CX P w) 2 T.f__law_word T.fd__law_word p__law_word (spD .pl mg 3 m__law_word) :=
  DL.Fun.okD (M1 := []) (k := 1) T.F__law_word sc__law_word (by decide) fun cdv A outer s H E hr =>
    have S := sc__law_word; have tk := @tkX P w K mg base n__law_word "_law_word" (defScope s__law_word) T.f__law_word cdv A outer s H E; have po := @poX P w K mg base n__law_word "_law_word" (defScope s__law_word) T.f__law_word cdv A outer s H E
    (dss_cons (ds_setLc (i := 3) rfl (own := [("text", 4)]) rfl S.nd (by decide) (DIS.of (di_seq (de_var (pv 2) rfl))) (blkOk_by (N := n__law_word) (sc := (defScope s__law_word)) (by decide +kernel)) (fun _ _ _ _ _ => (dg_name (i := 4) S.nd rfl (Or.inl rfl))) (fun _ _ _ _ _ => (dts_one (dt_notN (de_var (pv 4) rfl)))) (fun _ _ _ _ _ => (de_var (pv 4) rfl))) (dss_freeze 3 rfl (dss_cons (ds_set rfl S.nd rfl (Or.inl rfl) (de_ix (de_var (pv 3) rfl) (de_mod (de_callTy call_int1 cb_int rfl T.b_int bt_int (da_consC (de_call (ok__law_drawn T) (hr.mono (by decide)) rfl T.m__law_drawn T.k__law_drawn T.bd__law_drawn tk (da_cons (de_var (pv 0) rfl) (da_cons (de_var (pv 1) rfl) da_nil)) (fun env ds h => by obtain ⟨_, r0, rfl, h0⟩ := aLen_cons h; obtain ⟨_, r1, rfl, h1⟩ := aLen_cons h0; cases h1; rfl)) da_nil)) (de_callB call_len cb_len rfl T.b_len bt_len (da_consC (de_var (pv 3) rfl) da_nil))) (fun _ _ => rfl))) (dss_cons (ds_set rfl S.nd rfl (Or.inl rfl) (de_mod (de_callTy call_int1 cb_int rfl T.b_int bt_int (da_consC (de_call (ok__law_drawn T) (hr.mono (by decide)) rfl T.m__law_drawn T.k__law_drawn T.bd__law_drawn tk (da_cons (de_var (pv 0) rfl) (da_cons (de_add (de_var (pv 1) rfl) de_int) da_nil)) (fun env ds h => by obtain ⟨_, r0, rfl, h0⟩ := aLen_cons h; obtain ⟨_, r1, rfl, h1⟩ := aLen_cons h0; cases h1; rfl)) da_nil)) (de_callB call_len cb_len rfl T.b_len bt_len (da_consC (de_var (pv 4) rfl) da_nil)))) (dss_cons (ds_set rfl S.nd rfl (Or.inl rfl) (de_sl (de_var (pv 4) rfl) (do_some (de_var (pv 5) rfl)) (do_some (de_add (de_add (de_var (pv 5) rfl) de_int) (de_mod (de_callTy call_int1 cb_int rfl T.b_int bt_int (da_consC (de_call (ok__law_drawn T) (hr.mono (by decide)) rfl T.m__law_drawn T.k__law_drawn T.bd__law_drawn tk (da_cons (de_var (pv 0) rfl) (da_cons (de_add (de_var (pv 1) rfl) de_int) da_nil)) (fun env ds h => by obtain ⟨_, r0, rfl, h0⟩ := aLen_cons h; obtain ⟨_, r1, rfl, h1⟩ := aLen_cons h0; cases h1; rfl)) da_nil)) de_int))))) (dss_cons (ds_if rfl (dt_eq hr.units (de_mod (de_callTy call_int1 cb_int rfl T.b_int bt_int (da_consC (de_call (ok__law_drawn T) (hr.mono (by decide)) rfl T.m__law_drawn T.k__law_drawn T.bd__law_drawn tk (da_cons (de_var (pv 0) rfl) (da_cons (de_add (de_var (pv 1) rfl) de_int) da_nil)) (fun env ds h => by obtain ⟨_, r0, rfl, h0⟩ := aLen_cons h; obtain ⟨_, r1, rfl, h1⟩ := aLen_cons h0; cases h1; rfl)) da_nil)) de_int) de_int) (dss_one (ds_set rfl S.nd rfl (Or.inl rfl) (de_sl (de_add (de_var (pv 6) rfl) (de_ix de_str (de_mod (de_callTy call_int1 cb_int rfl T.b_int bt_int (da_consC (de_call (ok__law_drawn T) (hr.mono (by decide)) rfl T.m__law_drawn T.k__law_drawn T.bd__law_drawn tk (da_cons (de_var (pv 0) rfl) (da_cons (de_add (de_var (pv 1) rfl) de_int) da_nil)) (fun env ds h => by obtain ⟨_, r0, rfl, h0⟩ := aLen_cons h; obtain ⟨_, r1, rfl, h1⟩ := aLen_cons h0; cases h1; rfl)) da_nil)) de_int) (fun _ _ => rfl))) (do_some (de_neg de_int)) do_none))) dss_nil) (dss_one (ds_ret rfl rfl (de_var (pv 6) rfl)))))))))
set_option maxHeartbeats 4000000 in
theorem ok__law_power (T : Txt K mg) : FnOk P w K mg base (L2.CX P w) 1 T.f__law_power T.fd__law_power p__law_power (spD .pl mg 1 m__law_power) :=
  DL.Fun.okD (M1 := []) (k := 0) T.F__law_power sc__law_power (by decide) fun cdv A outer s H E hr =>
    have S := sc__law_power; have tk := @tkX P w K mg base n__law_power "_law_power" (defScope s__law_power) T.f__law_power cdv A outer s H E; have po := @poX P w K mg base n__law_power "_law_power" (defScope s__law_power) T.f__law_power cdv A outer s H E
    (dss_cons (ds_set rfl S.nd rfl (Or.inl rfl) de_int) (dss_cons (ds_for rfl po rfl (di_range1 rfl T.b_range (de_var (pv 0) rfl)) (dg_name (i := 2) S.nd rfl (Or.inl rfl)) (dss_cons (ds_set rfl S.nd rfl (Or.inl rfl) (de_mul de_int (de_var (pv 1) rfl))) (dss_weakR (N := [.fz, .fz, .un]) rfl dss_nil))) (dss_one (ds_ret rfl rfl (de_var (pv 1) rfl)))))
set_option maxHeartbeats 4000000 in
theorem ok__law_known (T : Txt K mg) : FnOk P w K mg base (L2.CX P w) 5 T.f__law_known T.fd__law_known p__law_known (spD .pl mg 1 m__law_known) :=
  DL.Fun.okD (M1 := []) (k := 4) T.F__law_known sc__law_known (by decide) fun cdv A outer s H E hr =>
    have S := sc__law_known; have tk := @tkX P w K mg base n__law_known "_law_known" (defScope s__law_known) T.f__law_known cdv A outer s H E; have po := @poX P w K mg base n__law_known "_law_known" (defScope s__law_known) T.f__law_known cdv A outer s H E
    (dss_cons (ds_set rfl S.nd rfl (Or.inl rfl) (de_add de_int (de_mod (de_callTy call_int1 cb_int rfl T.b_int bt_int (da_consC (de_ix (de_var (pv 0) rfl) de_int (fun _ _ => rfl)) da_nil)) (de_ix (de_list (da_cons de_int (da_cons de_int da_nil))) (de_mod (de_callTy call_int1 cb_int rfl T.b_int bt_int (da_consC (de_ix (de_var (pv 0) rfl) de_int (fun _ _ => rfl)) da_nil)) de_int) (fun _ _ => rfl))))) (dss_cons (ds_set rfl S.nd rfl (Or.inl rfl) (de_tup (da_cons (de_add (de_list (da_cons (de_tup (da_cons de_str (da_cons de_str da_nil))) da_nil)) (de_lc (own := [("j", 8)]) rfl S.nd (by decide) (DIS.of (di_range1 rfl T.b_range (de_var (pv 1) rfl))) (blkOk_by (N := n__law_known) (sc := (defScope s__law_known)) (by decide +kernel)) (fun _ _ _ _ _ => (dg_name (i := 8) S.nd rfl (Or.inl rfl))) (fun _ _ _ _ _ => dts_nil) (fun _ _ _ _ _ => (de_tup (da_cons de_str (da_cons (de_var (pv 8) rfl) (da_cons (de_var (pv 8) rfl) da_nil))))))) (da_cons (DE.pl (de_list (da_cons (de_var (pv 1) rfl) da_nil))) da_nil)))) (dss_cons (ds_for rfl po rfl (di_seq (DE.pl (de_list (da_cons de_int (da_cons de_int (da_cons de_int (da_cons de_int da_nil))))))) (dg_name (i := 3) S.nd rfl (Or.inl rfl)) (dss_cons (ds_if rfl (dt_ne hr.units (de_call (ok_count_of T) (hr.mono (by decide)) rfl T.m_count_of T.k_count_of T.bd_count_of tk (da_cons (de_var (pv 2) rfl) (da_cons (de_mul de_str (de_var (pv 3) rfl)) da_nil)) (fun env ds h => by obtain ⟨_, r0, rfl, h0⟩ := aLen_cons h; obtain ⟨_, r1, rfl, h1⟩ := aLen_cons h0; cases h1; rfl)) (de_callB (call_max2 rfl) cb_max rfl T.b_max bt_max (da_consC de_int (da_consC (de_add (de_sub (de_call (ok__law_power T) (hr.mono (by decide)) rfl T.m__law_power T.k__law_power T.bd__law_power tk (da_cons (de_var (pv 1) rfl) da_nil) (fun env ds h => by obtain ⟨_, r0, rfl, h0⟩ := aLen_cons h; cases h0; rfl)) (de_var (pv 3) rfl)) de_int) da_nil)))) (dss_one (ds_ret rfl rfl de_bl)) dss_nil) (dss_weakR (N := [.fz, .fz, .fz, .un, .un, .un, .un, .un, .un]) rfl dss_nil))) (dss_cons (ds_set rfl S.nd rfl (Or.inl rfl) (de_tup (da_cons (de_add (de_list (da_cons (de_tup (da_cons de_str (da_cons de_str da_nil))) (da_cons (de_tup (da_cons de_str (da_cons de_str da_nil))) (da_cons (de_tup (da_cons de_str (da_cons de_int (da_cons de_int da_nil)))) da_nil)))) (de_lc (own := [("j", 8)]) rfl S.nd (by decide) (DIS.of (di_rangeG rfl T.b_range de_int (de_sub (de_add de_int (de_var (pv 1) rfl)) de_int))) (blkOk_by (N := n__law_known) (sc := (defScope s__law_known)) (by decide +kernel)) (fun _ _ _ _ _ => (dg_name (i := 8) S.nd rfl (Or.inl rfl))) (fun _ _ _ _ _ => dts_nil) (fun _ _ _ _ _ => (de_tup (da_cons de_str (da_cons (de_var (pv 8) rfl) (da_cons (de_var (pv 8) rfl) da_nil))))))) (da_cons (DE.pl (de_list (da_cons (de_add (de_var (pv 1) rfl) de_int) da_nil))) da_nil)))) (dss_cons (ds_if rfl (dt_w (dw_or (dt_ne hr.units (de_call (ok_count_of T) (hr.mono (by decide)) rfl T.m_count_of T.k_count_of T.bd_count_of tk (da_cons (de_var (pv 4) rfl) (da_cons de_str da_nil)) (fun env ds h => by obtain ⟨_, r0, rfl, h0⟩ := aLen_cons h; obtain ⟨_, r1, rfl, h1⟩ := aLen_cons h0; cases h1; rfl)) (de_call (ok__law_power T) (hr.mono (by decide)) rfl T.m__law_power T.k__law_power T.bd__law_power tk (da_cons (de_sub (de_var (pv 1) rfl) de_int) da_nil) (fun env ds h => by obtain ⟨_, r0, rfl, h0⟩ := aLen_cons h; cases h0; rfl))) (dw_or (dt_ne hr.units (de_call (ok_count_of T) (hr.mono (by decide)) rfl T.m_count_of T.k_count_of T.bd_count_of tk (da_cons (de_var (pv 4) rfl) (da_cons de_str da_nil)) (fun env ds h => by obtain ⟨_, r0, rfl, h0⟩ := aLen_cons h; obtain ⟨_, r1, rfl, h1⟩ := aLen_cons h0; cases h1; rfl)) (de_sub (de_call (ok__law_power T) (hr.mono (by decide)) rfl T.m__law_power T.k__law_power T.bd__law_power tk (da_cons (de_sub (de_var (pv 1) rfl) de_int) da_nil) (fun env ds h => by obtain ⟨_, r0, rfl, h0⟩ := aLen_cons h; cases h0; rfl)) de_int)) (dw_or1 (dt_ne hr.units (de_call (ok_count_of T) (hr.mono (by decide)) rfl T.m_count_of T.k_count_of T.bd_count_of tk (da_cons (de_var (pv 4) rfl) (da_cons de_str da_nil)) (fun env ds h => by obtain ⟨_, r0, rfl, h0⟩ := aLen_cons h; obtain ⟨_, r1, rfl, h1⟩ := aLen_cons h0; cases h1; rfl)) de_int))))) (dss_one (ds_ret rfl rfl de_bl)) dss_nil) (dss_cons (ds_set rfl S.nd rfl (Or.inl rfl) (de_add (de_list (da_cons (de_tup (da_cons de_str (da_cons de_str da_nil))) (da_cons (de_tup (da_cons de_str (da_cons de_str da_nil))) da_nil))) (de_lc (own := [("j", 8)]) rfl S.nd (by decide) (DIS.of (di_range1 rfl T.b_range (de_sub (de_var (pv 1) rfl) de_int))) (blkOk_by (N := n__law_known) (sc := (defScope s__law_known)) (by decide +kernel)) (fun _ _ _ _ _ => (dg_name (i := 8) S.nd rfl (Or.inl rfl))) (fun _ _ _ _ _ => dts_nil) (fun _ _ _ _ _ => (de_tup (da_cons de_str (da_cons (de_add (de_var (pv 8) rfl) de_int) (da_cons (de_var (pv 8) rfl) da_nil)))))))) (dss_cons (ds_setO rfl S.nd rfl (Or.inl rfl) (de_list (da_cons de_int (da_cons de_int da_nil)))) (dss_cons (ds_for rfl po rfl (di_rangeG rfl T.b_range de_int (de_callB call_len cb_len rfl T.b_len bt_len (da_consC (de_var (pv 5) rfl) da_nil))) (dg_name (i := 7) S.nd rfl (Or.inl rfl)) (dss_cons (ds_append rfl rfl (pv 6) (de_add (de_ix (de_varO (pv 6) rfl) (de_sub (de_var (pv 7) rfl) de_int) (fun _ _ => rfl)) (de_ix (de_varO (pv 6) rfl) (de_sub (de_var (pv 7) rfl) de_int) (fun _ _ => rfl)))) (dss_weakR (N := [.fz, .fz, .fz, .un, .fz, .fz, .ow, .un, .un]) rfl dss_nil))) (dss_one (ds_ret rfl rfl (de_and (de_eq hr.units (de_call (ok_count_in T) (hr.mono (by decide)) rfl T.m_count_in T.k_count_in T.bd_count_in tk (da_cons (de_tup (da_cons (de_var (pv 5) rfl) (da_cons (DE.pl (de_list da_nil)) da_nil))) (da_cons (de_sub (de_callB call_len cb_len rfl T.b_len bt_len (da_consC (de_var (pv 5) rfl) da_nil)) de_int) (da_cons de_str da_nil))) (fun env ds h => by obtain ⟨_, r0, rfl, h0⟩ := aLen_cons h; obtain ⟨_, r1, rfl, h1⟩ := aLen_cons h0; obtain ⟨_, r2, rfl, h2⟩ := aLen_cons h1; cases h2; rfl)) (de_ix (de_varO (pv 6) rfl) (de_neg de_int) (fun _ _ => rfl))) (de_one (de_eq hr.units (de_call (ok_count_in T) (hr.mono (by decide)) rfl T.m_count_in T.k_count_in T.bd_count_in tk (da_cons (de_tup (da_cons (de_var (pv 5) rfl) (da_cons (DE.pl (de_list da_nil)) da_nil))) (da_cons (de_sub (de_callB call_len cb_len rfl T.b_len bt_len (da_consC (de_var (pv 5) rfl) da_nil)) de_int) (da_cons de_str da_nil))) (fun env ds h => by obtain ⟨_, r0, rfl, h0⟩ := aLen_cons h; obtain ⟨_, r1, rfl, h1⟩ := aLen_cons h0; obtain ⟨_, r2, rfl, h2⟩ := aLen_cons h1; cases h2; rfl)) de_int)))))))))))))
set_option maxHeartbeats 4000000 in
theorem body_law (T : Txt K mg) (fa : Addr) : ∀ (base : Heap) (cdv : Value) (s : Shared) (H : Hp), K.In base → base.Ns mainGlobals mg →
    DSs (cxOf (L2.CX P w) P w K mg base n_law "law" (defScope s_law) fa cdv callerA [] s H fun _ _ _ => False) ⟨wE fun _ _ _ => False, mg, none⟩ ⟨[], [], .pl⟩ (mode0 n_law.length 1) [] (defBody s_law) o_law := fun base cdv s H _ _ =>
    have hr0 : Room 6 callerA := ⟨rfl, by decide, by decide⟩; have hr := hr0.deeper (PyProof.Rows.envOfC "law" (defScope s_law) s.heap.objs.size fa cdv)
    have S := sc_law; have tk := @tkX P w K mg base n_law "law" (defScope s_law) fa cdv callerA [] s H (fun _ _ _ => False); have po := @poX P w K mg base n_law "law" (defScope s_law) fa cdv callerA [] s H (fun _ _ _ => False)
    (dss_cons (ds_set rfl S.nd rfl (Or.inl rfl) (DE.pl (de_call (ok__law_numbers T) (hr.mono (by decide)) rfl T.m__law_numbers T.k__law_numbers T.bd__law_numbers tk (da_cons (de_var (pv 0) rfl) (da_cons de_int da_nil)) (fun env ds h => by obtain ⟨_, r0, rfl, h0⟩ := aLen_cons h; obtain ⟨_, r1, rfl, h1⟩ := aLen_cons h0; cases h1; rfl)))) (dss_cons (ds_set rfl S.nd rfl (Or.inl rfl) (DE.pl (de_call (ok__law_symbols T) (hr.mono (by decide)) rfl T.m__law_symbols T.k__law_symbols T.bd__law_symbols tk (da_cons (de_var (pv 1) rfl) (da_cons de_int (da_cons (de_ix (de_list (da_cons de_int (da_cons de_int da_nil))) (de_mod (de_callTy call_int1 cb_int rfl T.b_int bt_int (da_consC (de_ix (de_var (pv 1) rfl) de_int (fun _ _ => rfl)) da_nil)) de_int) (fun _ _ => rfl)) da_nil))) (fun env ds h => by obtain ⟨_, r0, rfl, h0⟩ := aLen_cons h; obtain ⟨_, r1, rfl, h1⟩ := aLen_cons h0; obtain ⟨_, r2, rfl, h2⟩ := aLen_cons h1; cases h2; rfl)))) (dss_cons (ds_set rfl S.nd rfl (Or.inl rfl) (de_tup (da_cons (de_var (pv 2) rfl) (da_cons (DE.pl (de_call (ok__law_roots T) (hr.mono (by decide)) rfl T.m__law_roots T.k__law_roots T.bd__law_roots tk (da_cons (de_var (pv 1) rfl) (da_cons de_int (da_cons (de_var (pv 2) rfl) da_nil))) (fun env ds h => by obtain ⟨_, r0, rfl, h0⟩ := aLen_cons h; obtain ⟨_, r1, rfl, h1⟩ := aLen_cons h0; obtain ⟨_, r2, rfl, h2⟩ := aLen_cons h1; cases h2; rfl))) da_nil)))) (dss_cons (ds_set rfl S.nd rfl (Or.inl rfl) (de_callB (call_reprD rfl (hr66 hr)) cb_repr rfl T.b_repr bt_repr (da_consC (de_var (pv 3) rfl) da_nil))) (dss_cons (ds_set rfl S.nd rfl (Or.inl rfl) (DE.pl (de_call (ok__law_texts T) (hr.mono (by decide)) rfl T.m__law_texts T.k__law_texts T.bd__law_texts tk (da_cons (de_var (pv 2) rfl) (da_cons de_int da_nil)) (fun env ds h => by obtain ⟨_, r0, rfl, h0⟩ := aLen_cons h; obtain ⟨_, r1, rfl, h1⟩ := aLen_cons h0; cases h1; rfl)))) (dss_cons (ds_for rfl po rfl (di_range1 rfl T.b_range de_int) (dg_name (i := 6) S.nd rfl (Or.inl rfl)) (dss_cons (ds_set rfl S.nd rfl (Or.inl rfl) (de_call (ok__law_word T) (hr.mono (by decide)) rfl T.m__law_word T.k__law_word T.bd__law_word tk (da_cons (de_var (pv 1) rfl) (da_cons (de_add de_int (de_mul de_int (de_var (pv 6) rfl))) (da_cons (de_var (pv 5) rfl) da_nil))) (fun env ds h => by obtain ⟨_, r0, rfl, h0⟩ := aLen_cons h; obtain ⟨_, r1, rfl, h1⟩ := aLen_cons h0; obtain ⟨_, r2, rfl, h2⟩ := aLen_cons h1; cases h2; rfl))) (dss_cons (ds_set rfl S.nd rfl (Or.inr rfl) (DE.pl (de_call (ok__law_counts T) (hr.mono (by decide)) rfl T.m__law_counts T.k__law_counts T.bd__law_counts tk (da_cons (de_var (pv 2) rfl) (da_cons (de_var (pv 8) rfl) da_nil)) (fun env ds h => by obtain ⟨_, r0, rfl, h0⟩ := aLen_cons h; obtain ⟨_, r1, rfl, h1⟩ := aLen_cons h0; cases h1; rfl)))) (dss_cons (ds_for rfl po rfl (di_range1 rfl T.b_range (de_callB call_len cb_len rfl T.b_len bt_len (da_consC (de_var (pv 2) rfl) da_nil))) (dg_name (i := 7) S.nd rfl (Or.inl rfl)) (dss_cons (ds_if rfl (dt_w (dw_and (dt_notN (de_ix (de_var (pv 5) rfl) (de_var (pv 7) rfl) (fun _ _ => rfl))) (dw_and1 (dt_ne hr.units (de_ix (de_var (pv 9) rfl) (de_var (pv 7) rfl) (fun _ _ => rfl)) (de_call (ok__law_scan T) (hr.mono (by decide)) rfl T.m__law_scan T.k__law_scan T.bd__law_scan tk (da_cons (de_ix (de_var (pv 5) rfl) (de_var (pv 7) rfl) (fun _ _ => rfl)) (da_cons (de_var (pv 8) rfl) da_nil)) (fun env ds h => by obtain ⟨_, r0, rfl, h0⟩ := aLen_cons h; obtain ⟨_, r1, rfl, h1⟩ := aLen_cons h0; cases h1; rfl)))))) (dss_one (ds_ret rfl rfl de_bl)) dss_nil) (dss_weakR (N := [.fz, .fz, .fz, .fz, .fz, .fz, .fz, .un, .fz, .fz, .un, .un]) rfl dss_nil))) (dss_cons (ds_for rfl po rfl (di_seq (DE.pl (de_list (da_cons (de_sub (de_callB call_len cb_len rfl T.b_len bt_len (da_consC (de_var (pv 2) rfl) da_nil)) de_int) (da_cons (de_mod (de_callTy call_int1 cb_int rfl T.b_int bt_int (da_consC (de_ix (de_var (pv 1) rfl) (de_add de_int (de_var (pv 6) rfl)) (fun _ _ => rfl)) da_nil)) (de_callB call_len cb_len rfl T.b_len bt_len (da_consC (de_var (pv 2) rfl) da_nil))) (da_cons (de_mod (de_callTy call_int1 cb_int rfl T.b_int bt_int (da_consC (de_ix (de_var (pv 1) rfl) (de_add de_int (de_var (pv 6) rfl)) (fun _ _ => rfl)) da_nil)) (de_callB call_len cb_len rfl T.b_len bt_len (da_consC (de_var (pv 2) rfl) da_nil))) da_nil)))))) (dg_name (i := 7) S.nd rfl (Or.inl rfl)) (dss_cons (ds_if rfl (dt_ne hr.units (de_callB (call_reprD rfl (hr66 hr)) cb_repr rfl T.b_repr bt_repr (da_consC (de_call (ok_count_in T) (hr.mono (by decide)) rfl T.m_count_in T.k_count_in T.bd_count_in tk (da_cons (de_var (pv 3) rfl) (da_cons (de_var (pv 7) rfl) (da_cons (de_var (pv 8) rfl) da_nil))) (fun env ds h => by obtain ⟨_, r0, rfl, h0⟩ := aLen_cons h; obtain ⟨_, r1, rfl, h1⟩ := aLen_cons h0; obtain ⟨_, r2, rfl, h2⟩ := aLen_cons h1; cases h2; rfl)) da_nil)) (de_callB (call_reprD rfl (hr66 hr)) cb_repr rfl T.b_repr bt_repr (da_consC (de_ix (de_var (pv 9) rfl) (de_var (pv 7) rfl) (fun _ _ => rfl)) da_nil))) (dss_one (ds_ret rfl rfl de_bl)) dss_nil) (dss_weakR (N := [.fz, .fz, .fz, .fz, .fz, .fz, .fz, .un, .fz, .fz, .un, .un]) rfl dss_nil))) (dss_cons (ds_if rfl (dt_w (dw_or (dt_ne hr.units (de_callB (call_reprD rfl (hr66 hr)) cb_repr rfl T.b_repr bt_repr (da_consC (de_call (ok_count_of T) (hr.mono (by decide)) rfl T.m_count_of T.k_count_of T.bd_count_of tk (da_cons (de_var (pv 3) rfl) (da_cons (de_var (pv 8) rfl) da_nil)) (fun env ds h => by obtain ⟨_, r0, rfl, h0⟩ := aLen_cons h; obtain ⟨_, r1, rfl, h1⟩ := aLen_cons h0; cases h1; rfl)) da_nil)) (de_callB (call_reprD rfl (hr66 hr)) cb_repr rfl T.b_repr bt_repr (da_consC (de_callB (cr_sum rfl) cb_sum rfl T.b_sum bt_sum (da_consC (de_lc (own := [("root", 11)]) rfl S.nd (by decide) (DIS.of (di_seq (de_ix (de_var (pv 3) rfl) de_int (fun _ _ => rfl)))) (blkOk_by (N := n_law) (sc := (defScope s_law)) (by decide +kernel)) (fun _ _ _ _ _ => (dg_name (i := 11) S.nd rfl (Or.inl rfl))) (fun _ _ _ _ _ => (dts_one (dt_notN (de_var (pv 11) rfl)))) (fun _ _ _ _ _ => (de_ix (de_var (pv 9) rfl) (de_var (pv 11) rfl) (fun _ _ => rfl)))) da_nil)) da_nil))) (dw_or1 (dt_ne hr.units (de_callB (call_reprD rfl (hr66 hr)) cb_repr rfl T.b_repr bt_repr (da_consC (de_var (pv 3) rfl) da_nil)) (de_var (pv 4) rfl))))) (dss_one (ds_ret rfl rfl de_bl)) dss_nil) (dss_weakR (N := [.fz, .fz, .fz, .fz, .fz, .fz, .un, .un, .un, .un, .un, .un]) rfl dss_nil))))))) (dss_cons (ds_for rfl po rfl (di_seq (DE.pl (de_list (da_cons (de_neg de_int) (da_cons (de_callB call_len cb_len rfl T.b_len bt_len (da_consC (de_var (pv 2) rfl) da_nil)) (da_cons de_int da_nil)))))) (dg_name (i := 7) S.nd rfl (Or.inl rfl)) (dss_cons (ds_tryAs (Mt := [.fz, .fz, .fz, .fz, .fz, .fz, .un, .fz, .un, .un, .un, .un]) (M2 := [.fz, .fz, .fz, .fz, .fz, .fz, .un, .fz, .un, .un, .un, .un]) (M' := [.fz, .fz, .fz, .fz, .fz, .fz, .un, .fz, .un, .un, .un, .un]) (i := 10) (h := h_HouseError) rfl rfl S.nd rfl rfl ⟨rfl, rfl, .inl T.E_HouseError.g⟩ tk rfl (hh_HouseError T) rfl rfl (fun W pn xe tk po => (dss_cons (ds_expr rfl (de_call (ok_count_in T) (hr.mono (by decide)) rfl T.m_count_in T.k_count_in T.bd_count_in tk (da_cons (de_var (pv 3) rfl) (da_cons (de_var (pv 7) rfl) (da_cons de_str da_nil))) (fun env ds h => by obtain ⟨_, r0, rfl, h0⟩ := aLen_cons h; obtain ⟨_, r1, rfl, h1⟩ := aLen_cons h0; obtain ⟨_, r2, rfl, h2⟩ := aLen_cons h1; cases h2; rfl))) (dss_one (ds_ret rfl rfl de_bl)))) (fun cn dat a oe cls dd pn h1 h2 hz hf => by obtain ⟨C, hC, xk⟩ := xk_HouseError T cn cls h1 h2; exact (dss_weakR (N := [.fz, .fz, .fz, .fz, .fz, .fz, .un, .fz, .un, .un, .un, .un]) rfl (dss_one (ds_if rfl (dt_w (dw_or (dt_not (dt_val (de_isE xk hz hf hC (kit_HouseError_OutOfRange T cn cls h1 h2 C hC) (pv 10) rfl rfl T.b_isinstance rfl T.E_OutOfRange.g))) (dw_or1 (dt_ne hr.units (de_at xk.xf xk.na hz hf hC (pv 10) rfl) (de_var (pv 7) rfl))))) (dss_one (ds_ret rfl rfl de_bl)) dss_nil))))) (dss_weakR (N := [.fz, .fz, .fz, .fz, .fz, .fz, .un, .un, .un, .un, .un, .un]) rfl dss_nil))) (dss_one (ds_ret rfl rfl (de_call (ok__law_known T) (hr.mono (by decide)) rfl T.m__law_known T.k__law_known T.bd__law_known tk (da_cons (de_var (pv 1) rfl) da_nil) (fun env ds h => by obtain ⟨_, r0, rfl, h0⟩ := aLen_cons h; cases h0; rfl)))))))))))
end
theorem all_mk {P : Program} {w : World} {K : PySem.W.Frag} {h : Heap} {mg : Str → Option Value} {fa : Addr} {fI : Addr} {odI anI : Option Addr} {slI : Array (Option Value)} {ocI kVI dcI pmI cdI ctI : Value} {C_HouseError : Addr} {nm_HouseError q_HouseError : Str} {N_HouseError k0_HouseError k1_HouseError k2_HouseError k3_HouseError k5_HouseError : _} {bs_HouseError bm_HouseError : _} {sn_HouseError sub_HouseError ab_HouseError col_HouseError dd_HouseError : _} {C_OutOfRange : Addr} {nm_OutOfRange q_OutOfRange : Str} {N_OutOfRange k0_OutOfRange k1_OutOfRange k2_OutOfRange k3_OutOfRange k5_OutOfRange : _} {bs_OutOfRange bm_OutOfRange : _} {sn_OutOfRange sub_OutOfRange ab_OutOfRange col_OutOfRange dd_OutOfRange : _} {f_check_symbol : Addr} {od_check_symbol an_check_symbol : Option Addr} {sl_check_symbol : Array (Option Value)} {oc_check_symbol kV_check_symbol dc_check_symbol pm_check_symbol cd_check_symbol ct_check_symbol : Value} {f_match_behind : Addr} {od_match_behind an_match_behind : Option Addr} {sl_match_behind : Array (Option Value)} {oc_match_behind kV_match_behind dc_match_behind pm_match_behind cd_match_behind ct_match_behind : Value} {f_meetings : Addr} {od_meetings an_meetings : Option Addr} {sl_meetings : Array (Option Value)} {oc_meetings kV_meetings dc_meetings pm_meetings cd_meetings ct_meetings : Value} {f_count_in : Addr} {od_count_in an_count_in : Option Addr} {sl_count_in : Array (Option Value)} {oc_count_in kV_count_in dc_count_in pm_count_in cd_count_in ct_count_in : Value} {f_count_of : Addr} {od_count_of an_count_of : Option Addr} {sl_count_of : Array (Option Value)} {oc_count_of kV_count_of dc_count_of pm_count_of cd_count_of ct_count_of : Value} {f__law_numbers : Addr} {od__law_numbers an__law_numbers : Option Addr} {sl__law_numbers : Array (Option Value)} {oc__law_numbers kV__law_numbers dc__law_numbers pm__law_numbers cd__law_numbers ct__law_numbers : Value} {f__law_drawn : Addr} {od__law_drawn an__law_drawn : Option Addr} {sl__law_drawn : Array (Option Value)} {oc__law_drawn kV__law_drawn dc__law_drawn pm__law_drawn cd__law_drawn ct__law_drawn : Value} {f__law_symbols : Addr} {od__law_symbols an__law_symbols : Option Addr} {sl__law_symbols : Array (Option Value)} {oc__law_symbols kV__law_symbols dc__law_symbols pm__law_symbols cd__law_symbols ct__law_symbols : Value} {f__law_roots : Addr} {od__law_roots an__law_roots : Option Addr} {sl__law_roots : Array (Option Value)} {oc__law_roots kV__law_roots dc__law_roots pm__law_roots cd__law_roots ct__law_roots : Value} {f__law_sizes : Addr} {od__law_sizes an__law_sizes : Option Addr} {sl__law_sizes : Array (Option Value)} {oc__law_sizes kV__law_sizes dc__law_sizes pm__law_sizes cd__law_sizes ct__law_sizes : Value} {f__law_texts : Addr} {od__law_texts an__law_texts : Option Addr} {sl__law_texts : Array (Option Value)} {oc__law_texts kV__law_texts dc__law_texts pm__law_texts cd__law_texts ct__law_texts : Value} {f__law_scan : Addr} {od__law_scan an__law_scan : Option Addr} {sl__law_scan : Array (Option Value)} {oc__law_scan kV__law_scan dc__law_scan pm__law_scan cd__law_scan ct__law_scan : Value} {f__law_edges : Addr} {od__law_edges an__law_edges : Option Addr} {sl__law_edges : Array (Option Value)} {oc__law_edges kV__law_edges dc__law_edges pm__law_edges cd__law_edges ct__law_edges : Value} {f__law_counts : Addr} {od__law_counts an__law_counts : Option Addr} {sl__law_counts : Array (Option Value)} {oc__law_counts kV__law_counts dc__law_counts pm__law_counts cd__law_counts ct__law_counts : Value} {f__law_word : Addr} {od__law_word an__law_word : Option Addr} {sl__law_word : Array (Option Value)} {oc__law_word kV__law_word dc__law_word pm__law_word cd__law_word ct__law_word : Value} {f__law_power : Addr} {od__law_power an__law_power : Option Addr} {sl__law_power : Array (Option Value)} {oc__law_power kV__law_power dc__law_power pm__law_power cd__law_power ct__law_power : Value} {f__law_known : Addr} {od__law_known an__law_known : Option Addr} {sl__law_known : Array (Option Value)} {oc__law_known kV__law_known dc__law_known pm__law_known cd__law_known ct__law_known : Value} {f_law : Addr} {od_law an_law : Option Addr} {sl_law : Array (Option Value)} {oc_law kV_law dc_law pm_law cd_law ct_law : Value} (X : K.In h) (G : h.Ns mainGlobals mg) (hfa : mg "law" = some (.ref fa))
    (a_HouseError : PySem.W.nsIn K mainGlobals "HouseError" = some (some (.ref C_HouseError)))
    (a_OutOfRange : PySem.W.nsIn K mainGlobals "OutOfRange" = some (some (.ref C_OutOfRange)))
    (a_ini : PySem.W.findIn K (.ref C_HouseError) "__init__" = some (some (.ref fI)))
    (l_ini : K.lookup fI = some ⟨ocI, odI, .func (PySem.W.fnOf "__init__" "HouseError.__init__" (defArgs s_init) (defBody s_init) (defScope s_init) .none kVI dcI pmI anI cdI ctI), slI⟩)
    (c_ini : PySem.W.codeIn K cdI "HouseError.__init__" = true)
    (k_ini : PySem.W.keepIn K (.ref fI) = true)
    (t_ini : PySem.W.typeIn K (.ref fI) = some (.type "function"))
    (vV : PySem.W.findCls K (.type "ValueError") (.type "type") "__init__" = some (.val (.builtin "ValueError.__init__")))
    (cl_HouseError : K.lookup C_HouseError = some (PySem.excClassObj nm_HouseError q_HouseError C_HouseError N_HouseError bs_HouseError bm_HouseError true sn_HouseError sub_HouseError ab_HouseError col_HouseError dd_HouseError k0_HouseError k1_HouseError k2_HouseError k3_HouseError k5_HouseError "ValueError.__new__"))
    (bm_HouseErrorx : PySem.HandSPX.refsVE bm_HouseError = true)
    (sa_HouseError : PySem.W.findIn K (.ref C_HouseError) "__setattr__" = some (some (.builtin "object.__setattr__")))
    (ex_HouseError : PySem.W.subIn K (.ref C_HouseError) (.type "BaseException") = some true)
    (ty_HouseError : PySem.W.typeIn K (.ref C_HouseError) = some (.type "type"))
    (kc_HouseError : PySem.W.keepIn K (.ref C_HouseError) = true)
    (at_HouseError : PySem.W.findIn K (.ref C_HouseError) "at" = some none)
    (ga_HouseError : PySem.W.findIn K (.ref C_HouseError) "__getattribute__" = some (some (.builtin "BaseException.__getattribute__")))
    (gg_HouseError : PySem.W.findIn K (.ref C_HouseError) "__getattr__" = some none)
    (hd_HouseError : PySem.W.hasDictIn K C_HouseError = true)
    (ca_HouseError : PySem.W.findIn K (.ref C_HouseError) "__class__" = some (some (.builtin "object.__class__")))
    (mo_HouseError : PySem.W.mroIn K C_HouseError (.type "object") = some true)
    (cl_OutOfRange : K.lookup C_OutOfRange = some (PySem.excClassObj nm_OutOfRange q_OutOfRange C_OutOfRange N_OutOfRange bs_OutOfRange bm_OutOfRange true sn_OutOfRange sub_OutOfRange ab_OutOfRange col_OutOfRange dd_OutOfRange k0_OutOfRange k1_OutOfRange k2_OutOfRange k3_OutOfRange k5_OutOfRange "ValueError.__new__"))
    (bm_OutOfRangex : PySem.HandSPX.refsVE bm_OutOfRange = true)
    (sa_OutOfRange : PySem.W.findIn K (.ref C_OutOfRange) "__setattr__" = some (some (.builtin "object.__setattr__")))
    (ex_OutOfRange : PySem.W.subIn K (.ref C_OutOfRange) (.type "BaseException") = some true)
    (ty_OutOfRange : PySem.W.typeIn K (.ref C_OutOfRange) = some (.type "type"))
    (kc_OutOfRange : PySem.W.keepIn K (.ref C_OutOfRange) = true)
    (in_OutOfRange : PySem.W.findIn K (.ref C_OutOfRange) "__init__" = some (some (.ref fI)))
    (at_OutOfRange : PySem.W.findIn K (.ref C_OutOfRange) "at" = some none)
    (ga_OutOfRange : PySem.W.findIn K (.ref C_OutOfRange) "__getattribute__" = some (some (.builtin "BaseException.__getattribute__")))
    (gg_OutOfRange : PySem.W.findIn K (.ref C_OutOfRange) "__getattr__" = some none)
    (hd_OutOfRange : PySem.W.hasDictIn K C_OutOfRange = true)
    (ca_OutOfRange : PySem.W.findIn K (.ref C_OutOfRange) "__class__" = some (some (.builtin "object.__class__")))
    (mo_OutOfRange : PySem.W.mroIn K C_OutOfRange (.type "object") = some true)
    (spx : PySem.W.specialIn K (.builtin "object.__class__") "__get__" = some (some (.builtin "getset_descriptor.__get__")))
    (tkx : PySem.W.takesIn K (.builtin "object.__class__") = some true)
    (s_HouseError_HouseError : PySem.W.subIn K (.ref C_HouseError) (.ref C_HouseError) = some true)
    (s_OutOfRange_HouseError : PySem.W.subIn K (.ref C_OutOfRange) (.ref C_HouseError) = some true)
    (s_HouseError_OutOfRange : PySem.W.subIn K (.ref C_HouseError) (.ref C_OutOfRange) = some false)
    (s_OutOfRange_OutOfRange : PySem.W.subIn K (.ref C_OutOfRange) (.ref C_OutOfRange) = some true)
    (n_HouseError_OutOfRange : (Value.ref C_HouseError == Value.ref C_OutOfRange) = false)
    (z_ValueError : PySem.W.nsIn K mainGlobals "ValueError" = some none)
    (a_check_symbol : PySem.W.nsIn K mainGlobals "check_symbol" = some (some (.ref f_check_symbol)))
    (l_check_symbol : K.lookup f_check_symbol = some ⟨oc_check_symbol, od_check_symbol, .func (PySem.W.fnOf "check_symbol" "check_symbol" (defArgs s_check_symbol) (defBody s_check_symbol) (defScope s_check_symbol) .none kV_check_symbol dc_check_symbol pm_check_symbol an_check_symbol cd_check_symbol ct_check_symbol), sl_check_symbol⟩)
    (c_check_symbol : PySem.W.codeIn K cd_check_symbol "check_symbol" = true)
    (k_check_symbol : PySem.W.keepIn K (.ref f_check_symbol) = true)
    (a_match_behind : PySem.W.nsIn K mainGlobals "match_behind" = some (some (.ref f_match_behind)))
    (l_match_behind : K.lookup f_match_behind = some ⟨oc_match_behind, od_match_behind, .func (PySem.W.fnOf "match_behind" "match_behind" (defArgs s_match_behind) (defBody s_match_behind) (defScope s_match_behind) .none kV_match_behind dc_match_behind pm_match_behind an_match_behind cd_match_behind ct_match_behind), sl_match_behind⟩)
    (c_match_behind : PySem.W.codeIn K cd_match_behind "match_behind" = true)
    (k_match_behind : PySem.W.keepIn K (.ref f_match_behind) = true)
    (a_meetings : PySem.W.nsIn K mainGlobals "meetings" = some (some (.ref f_meetings)))
    (l_meetings : K.lookup f_meetings = some ⟨oc_meetings, od_meetings, .func (PySem.W.fnOf "meetings" "meetings" (defArgs s_meetings) (defBody s_meetings) (defScope s_meetings) .none kV_meetings dc_meetings pm_meetings an_meetings cd_meetings ct_meetings), sl_meetings⟩)
    (c_meetings : PySem.W.codeIn K cd_meetings "meetings" = true)
    (k_meetings : PySem.W.keepIn K (.ref f_meetings) = true)
    (a_count_in : PySem.W.nsIn K mainGlobals "count_in" = some (some (.ref f_count_in)))
    (l_count_in : K.lookup f_count_in = some ⟨oc_count_in, od_count_in, .func (PySem.W.fnOf "count_in" "count_in" (defArgs s_count_in) (defBody s_count_in) (defScope s_count_in) .none kV_count_in dc_count_in pm_count_in an_count_in cd_count_in ct_count_in), sl_count_in⟩)
    (c_count_in : PySem.W.codeIn K cd_count_in "count_in" = true)
    (k_count_in : PySem.W.keepIn K (.ref f_count_in) = true)
    (a_count_of : PySem.W.nsIn K mainGlobals "count_of" = some (some (.ref f_count_of)))
    (l_count_of : K.lookup f_count_of = some ⟨oc_count_of, od_count_of, .func (PySem.W.fnOf "count_of" "count_of" (defArgs s_count_of) (defBody s_count_of) (defScope s_count_of) .none kV_count_of dc_count_of pm_count_of an_count_of cd_count_of ct_count_of), sl_count_of⟩)
    (c_count_of : PySem.W.codeIn K cd_count_of "count_of" = true)
    (k_count_of : PySem.W.keepIn K (.ref f_count_of) = true)
    (a__law_numbers : PySem.W.nsIn K mainGlobals "_law_numbers" = some (some (.ref f__law_numbers)))
    (l__law_numbers : K.lookup f__law_numbers = some ⟨oc__law_numbers, od__law_numbers, .func (PySem.W.fnOf "_law_numbers" "_law_numbers" (defArgs s__law_numbers) (defBody s__law_numbers) (defScope s__law_numbers) .none kV__law_numbers dc__law_numbers pm__law_numbers an__law_numbers cd__law_numbers ct__law_numbers), sl__law_numbers⟩)
    (c__law_numbers : PySem.W.codeIn K cd__law_numbers "_law_numbers" = true)
    (k__law_numbers : PySem.W.keepIn K (.ref f__law_numbers) = true)
    (a__law_drawn : PySem.W.nsIn K mainGlobals "_law_drawn" = some (some (.ref f__law_drawn)))
    (l__law_drawn : K.lookup f__law_drawn = some ⟨oc__law_drawn, od__law_drawn, .func (PySem.W.fnOf "_law_drawn" "_law_drawn" (defArgs s__law_drawn) (defBody s__law_drawn) (defScope s__law_drawn) .none kV__law_drawn dc__law_drawn pm__law_drawn an__law_drawn cd__law_drawn ct__law_drawn), sl__law_drawn⟩)
    (c__law_drawn : PySem.W.codeIn K cd__law_drawn "_law_drawn" = true)
    (k__law_drawn : PySem.W.keepIn K (.ref f__law_drawn) = true)
    (a__law_symbols : PySem.W.nsIn K mainGlobals "_law_symbols" = some (some (.ref f__law_symbols)))
    (l__law_symbols : K.lookup f__law_symbols = some ⟨oc__law_symbols, od__law_symbols, .func (PySem.W.fnOf "_law_symbols" "_law_symbols" (defArgs s__law_symbols) (defBody s__law_symbols) (defScope s__law_symbols) .none kV__law_symbols dc__law_symbols pm__law_symbols an__law_symbols cd__law_symbols ct__law_symbols), sl__law_symbols⟩)
    (c__law_symbols : PySem.W.codeIn K cd__law_symbols "_law_symbols" = true)
    (k__law_symbols : PySem.W.keepIn K (.ref f__law_symbols) = true)
    (a__law_roots : PySem.W.nsIn K mainGlobals "_law_roots" = some (some (.ref f__law_roots)))
    (l__law_roots : K.lookup f__law_roots = some ⟨oc__law_roots, od__law_roots, .func (PySem.W.fnOf "_law_roots" "_law_roots" (defArgs s__law_roots) (defBody s__law_roots) (defScope s__law_roots) .none kV__law_roots dc__law_roots pm__law_roots an__law_roots cd__law_roots ct__law_roots), sl__law_roots⟩)
    (c__law_roots : PySem.W.codeIn K cd__law_roots "_law_roots" = true)
    (k__law_roots : PySem.W.keepIn K (.ref f__law_roots) = true)
    (a__law_sizes : PySem.W.nsIn K mainGlobals "_law_sizes" = some (some (.ref f__law_sizes)))
    (l__law_sizes : K.lookup f__law_sizes = some ⟨oc__law_sizes, od__law_sizes, .func (PySem.W.fnOf "_law_sizes" "_law_sizes" (defArgs s__law_sizes) (defBody s__law_sizes) (defScope s__law_sizes) .none kV__law_sizes dc__law_sizes pm__law_sizes an__law_sizes cd__law_sizes ct__law_sizes), sl__law_sizes⟩)
    (c__law_sizes : PySem.W.codeIn K cd__law_sizes "_law_sizes" = true)
    (k__law_sizes : PySem.W.keepIn K (.ref f__law_sizes) = true)
    (a__law_texts : PySem.W.nsIn K mainGlobals "_law_texts" = some (some (.ref f__law_texts)))
    (l__law_texts : K.lookup f__law_texts = some ⟨oc__law_texts, od__law_texts, .func (PySem.W.fnOf "_law_texts" "_law_texts" (defArgs s__law_texts) (defBody s__law_texts) (defScope s__law_texts) .none kV__law_texts dc__law_texts pm__law_texts an__law_texts cd__law_texts ct__law_texts), sl__law_texts⟩)
    (c__law_texts : PySem.W.codeIn K cd__law_texts "_law_texts" = true)
    (k__law_texts : PySem.W.keepIn K (.ref f__law_texts) = true)
    (a__law_scan : PySem.W.nsIn K mainGlobals "_law_scan" = some (some (.ref f__law_scan)))
    (l__law_scan : K.lookup f__law_scan = some ⟨oc__law_scan, od__law_scan, .func (PySem.W.fnOf "_law_scan" "_law_scan" (defArgs s__law_scan) (defBody s__law_scan) (defScope s__law_scan) .none kV__law_scan dc__law_scan pm__law_scan an__law_scan cd__law_scan ct__law_scan), sl__law_scan⟩)
    (c__law_scan : PySem.W.codeIn K cd__law_scan "_law_scan" = true)
    (k__law_scan : PySem.W.keepIn K (.ref f__law_scan) = true)
    (a__law_edges : PySem.W.nsIn K mainGlobals "_law_edges" = some (some (.ref f__law_edges)))
    (l__law_edges : K.lookup f__law_edges = some ⟨oc__law_edges, od__law_edges, .func (PySem.W.fnOf "_law_edges" "_law_edges" (defArgs s__law_edges) (defBody s__law_edges) (defScope s__law_edges) .none kV__law_edges dc__law_edges pm__law_edges an__law_edges cd__law_edges ct__law_edges), sl__law_edges⟩)
    (c__law_edges : PySem.W.codeIn K cd__law_edges "_law_edges" = true)
    (k__law_edges : PySem.W.keepIn K (.ref f__law_edges) = true)
    (a__law_counts : PySem.W.nsIn K mainGlobals "_law_counts" = some (some (.ref f__law_counts)))
    (l__law_counts : K.lookup f__law_counts = some ⟨oc__law_counts, od__law_counts, .func (PySem.W.fnOf "_law_counts" "_law_counts" (defArgs s__law_counts) (defBody s__law_counts) (defScope s__law_counts) .none kV__law_counts dc__law_counts pm__law_counts an__law_counts cd__law_counts ct__law_counts), sl__law_counts⟩)
    (c__law_counts : PySem.W.codeIn K cd__law_counts "_law_counts" = true)
    (k__law_counts : PySem.W.keepIn K (.ref f__law_counts) = true)
    (a__law_word : PySem.W.nsIn K mainGlobals "_law_word" = some (some (.ref f__law_word)))
    (l__law_word : K.lookup f__law_word = some ⟨oc__law_word, od__law_word, .func (PySem.W.fnOf "_law_word" "_law_word" (defArgs s__law_word) (defBody s__law_word) (defScope s__law_word) .none kV__law_word dc__law_word pm__law_word an__law_word cd__law_word ct__law_word), sl__law_word⟩)
    (c__law_word : PySem.W.codeIn K cd__law_word "_law_word" = true)
    (k__law_word : PySem.W.keepIn K (.ref f__law_word) = true)
    (a__law_power : PySem.W.nsIn K mainGlobals "_law_power" = some (some (.ref f__law_power)))
    (l__law_power : K.lookup f__law_power = some ⟨oc__law_power, od__law_power, .func (PySem.W.fnOf "_law_power" "_law_power" (defArgs s__law_power) (defBody s__law_power) (defScope s__law_power) .none kV__law_power dc__law_power pm__law_power an__law_power cd__law_power ct__law_power), sl__law_power⟩)
    (c__law_power : PySem.W.codeIn K cd__law_power "_law_power" = true)
    (k__law_power : PySem.W.keepIn K (.ref f__law_power) = true)
    (a__law_known : PySem.W.nsIn K mainGlobals "_law_known" = some (some (.ref f__law_known)))
    (l__law_known : K.lookup f__law_known = some ⟨oc__law_known, od__law_known, .func (PySem.W.fnOf "_law_known" "_law_known" (defArgs s__law_known) (defBody s__law_known) (defScope s__law_known) .none kV__law_known dc__law_known pm__law_known an__law_known cd__law_known ct__law_known), sl__law_known⟩)
    (c__law_known : PySem.W.codeIn K cd__law_known "_law_known" = true)
    (k__law_known : PySem.W.keepIn K (.ref f__law_known) = true)
    (a_law : PySem.W.nsIn K mainGlobals "law" = some (some (.ref f_law)))
    (l_law : K.lookup f_law = some ⟨oc_law, od_law, .func (PySem.W.fnOf "law" "law" (defArgs s_law) (defBody s_law) (defScope s_law) .none kV_law dc_law pm_law an_law cd_law ct_law), sl_law⟩)
    (c_law : PySem.W.codeIn K cd_law "law" = true)
    (k_law : PySem.W.keepIn K (.ref f_law) = true)
    (z_abs : PySem.W.nsIn K mainGlobals "abs" = some none)
    (z_int : PySem.W.nsIn K mainGlobals "int" = some none)
    (z_isinstance : PySem.W.nsIn K mainGlobals "isinstance" = some none)
    (z_len : PySem.W.nsIn K mainGlobals "len" = some none)
    (z_max : PySem.W.nsIn K mainGlobals "max" = some none)
    (z_min : PySem.W.nsIn K mainGlobals "min" = some none)
    (z_range : PySem.W.nsIn K mainGlobals "range" = some none)
    (z_repr : PySem.W.nsIn K mainGlobals "repr" = some none)
    (z_sum : PySem.W.nsIn K mainGlobals "sum" = some none)
    (nolist : (K.all fun p => !(p.2.cls == .type "list")) = true)
    : (∀ b ob, K.lookup b = some ob → ob.cls ≠ .type "list") ∧ ∃ fd : FuncData, Fun K "law" "law" s_law fa fd ∧ (∀ (s : Shared) (u : Value), BindsTo s fd ⟨[u], []⟩ [("script", u)]) ∧
      ∀ (base : Heap) (cdv : Value) (s : Shared) (H : Hp), K.In base → base.Ns mainGlobals mg →
        DSs (cxOf (L2.CX P w) P w K mg base n_law "law" (defScope s_law) fa cdv callerA [] s H fun _ _ _ => False) ⟨wE fun _ _ _ => False, mg, none⟩ ⟨[], [], .pl⟩ (mode0 n_law.length 1) [] (defBody s_law) o_law := by
  have e := hfa.symm.trans (PySem.W.mg_of X G a_law)
  cases e
  have F_check_symbol := fun_mk (st := s_check_symbol) l_check_symbol c_check_symbol k_check_symbol
  have F_match_behind := fun_mk (st := s_match_behind) l_match_behind c_match_behind k_match_behind
  have F_meetings := fun_mk (st := s_meetings) l_meetings c_meetings k_meetings
  have F_count_in := fun_mk (st := s_count_in) l_count_in c_count_in k_count_in
  have F_count_of := fun_mk (st := s_count_of) l_count_of c_count_of k_count_of
  have F__law_numbers := fun_mk (st := s__law_numbers) l__law_numbers c__law_numbers k__law_numbers
  have F__law_drawn := fun_mk (st := s__law_drawn) l__law_drawn c__law_drawn k__law_drawn
  have F__law_symbols := fun_mk (st := s__law_symbols) l__law_symbols c__law_symbols k__law_symbols
  have F__law_roots := fun_mk (st := s__law_roots) l__law_roots c__law_roots k__law_roots
  have F__law_sizes := fun_mk (st := s__law_sizes) l__law_sizes c__law_sizes k__law_sizes
  have F__law_texts := fun_mk (st := s__law_texts) l__law_texts c__law_texts k__law_texts
  have F__law_scan := fun_mk (st := s__law_scan) l__law_scan c__law_scan k__law_scan
  have F__law_edges := fun_mk (st := s__law_edges) l__law_edges c__law_edges k__law_edges
  have F__law_counts := fun_mk (st := s__law_counts) l__law_counts c__law_counts k__law_counts
  have F__law_word := fun_mk (st := s__law_word) l__law_word c__law_word k__law_word
  have F__law_power := fun_mk (st := s__law_power) l__law_power c__law_power k__law_power
  have F__law_known := fun_mk (st := s__law_known) l__law_known c__law_known k__law_known
  have F_law := fun_mk (st := s_law) l_law c_law k_law
  have F_init := fun_mk (st := s_init) l_ini c_ini k_ini
  have E_HouseError : ErrF K mg "HouseError" C_HouseError fI := ⟨PySem.W.mg_of X G a_HouseError, ⟨⟨_, _, _, _, _, _, _, _, _, _, _, _, _, _, _, cl_HouseError, bm_HouseErrorx⟩, sa_HouseError, ex_HouseError, ty_HouseError, kc_HouseError⟩, a_ini, at_HouseError⟩
  have K_HouseError : ExK K C_HouseError := ⟨(by unfold PySem.W.clsIn; rw [cl_HouseError]; rfl), ga_HouseError, gg_HouseError, ex_HouseError, hd_HouseError, ca_HouseError, spx, tkx, mo_HouseError, at_HouseError⟩
  have E_OutOfRange : ErrF K mg "OutOfRange" C_OutOfRange fI := ⟨PySem.W.mg_of X G a_OutOfRange, ⟨⟨_, _, _, _, _, _, _, _, _, _, _, _, _, _, _, cl_OutOfRange, bm_OutOfRangex⟩, sa_OutOfRange, ex_OutOfRange, ty_OutOfRange, kc_OutOfRange⟩, in_OutOfRange, at_OutOfRange⟩
  have K_OutOfRange : ExK K C_OutOfRange := ⟨(by unfold PySem.W.clsIn; rw [cl_OutOfRange]; rfl), ga_OutOfRange, gg_OutOfRange, ex_OutOfRange, hd_OutOfRange, ca_OutOfRange, spx, tkx, mo_OutOfRange, at_OutOfRange⟩
  let T : Txt K mg := {
    fI := fI,
    fdI := _,
    FI := F_init,
    bdI := F_init.binds (ps := n_init) fun _ _ _ _ _ _ us hl => match us, hl with | [_, _], _ => rfl,
    tI := t_ini,
    b_ValueError := PySem.W.mg_none_of X G z_ValueError,
    vV := vV,
    C_HouseError := C_HouseError,
    E_HouseError := E_HouseError,
    K_HouseError := K_HouseError,
    C_OutOfRange := C_OutOfRange,
    E_OutOfRange := E_OutOfRange,
    K_OutOfRange := K_OutOfRange,
    x_HouseError_HouseError := exm_of ex_HouseError hd_HouseError ty_HouseError s_HouseError_HouseError,
    x_OutOfRange_HouseError := exm_of ex_HouseError hd_HouseError ty_HouseError s_OutOfRange_HouseError,
    i_HouseError_OutOfRange := kit_cls n_HouseError_OutOfRange K_OutOfRange.cl ty_OutOfRange s_HouseError_OutOfRange,
    i_OutOfRange_OutOfRange := kit_self,
    f_check_symbol := f_check_symbol,
    fd_check_symbol := _,
    F_check_symbol := F_check_symbol,
    bd_check_symbol := F_check_symbol.binds (ps := p_check_symbol) fun _ _ _ _ _ _ us hl => match us, hl with | [_, _], _ => rfl,
    m_check_symbol := PySem.W.mg_of X G a_check_symbol,
    k_check_symbol := k_check_symbol,
    f_match_behind := f_match_behind,
    fd_match_behind := _,
    F_match_behind := F_match_behind,
    bd_match_behind := F_match_behind.binds (ps := p_match_behind) fun _ _ _ _ _ _ us hl => match us, hl with | [_, _, _], _ => rfl,
    m_match_behind := PySem.W.mg_of X G a_match_behind,
    k_match_behind := k_match_behind,
    f_meetings := f_meetings,
    fd_meetings := _,
    F_meetings := F_meetings,
    bd_meetings := F_meetings.binds (ps := p_meetings) fun _ _ _ _ _ _ us hl => match us, hl with | [_, _], _ => rfl,
    m_meetings := PySem.W.mg_of X G a_meetings,
    k_meetings := k_meetings,
    f_count_in := f_count_in,
    fd_count_in := _,
    F_count_in := F_count_in,
    bd_count_in := F_count_in.binds (ps := p_count_in) fun _ _ _ _ _ _ us hl => match us, hl with | [_, _, _], _ => rfl,
    m_count_in := PySem.W.mg_of X G a_count_in,
    k_count_in := k_count_in,
    f_count_of := f_count_of,
    fd_count_of := _,
    F_count_of := F_count_of,
    bd_count_of := F_count_of.binds (ps := p_count_of) fun _ _ _ _ _ _ us hl => match us, hl with | [_, _], _ => rfl,
    m_count_of := PySem.W.mg_of X G a_count_of,
    k_count_of := k_count_of,
    f__law_numbers := f__law_numbers,
    fd__law_numbers := _,
    F__law_numbers := F__law_numbers,
    bd__law_numbers := F__law_numbers.binds (ps := p__law_numbers) fun _ _ _ _ _ _ us hl => match us, hl with | [_, _], _ => rfl,
    m__law_numbers := PySem.W.mg_of X G a__law_numbers,
    k__law_numbers := k__law_numbers,
    f__law_drawn := f__law_drawn,
    fd__law_drawn := _,
    F__law_drawn := F__law_drawn,
    bd__law_drawn := F__law_drawn.binds (ps := p__law_drawn) fun _ _ _ _ _ _ us hl => match us, hl with | [_, _], _ => rfl,
    m__law_drawn := PySem.W.mg_of X G a__law_drawn,
    k__law_drawn := k__law_drawn,
    f__law_symbols := f__law_symbols,
    fd__law_symbols := _,
    F__law_symbols := F__law_symbols,
    bd__law_symbols := F__law_symbols.binds (ps := p__law_symbols) fun _ _ _ _ _ _ us hl => match us, hl with | [_, _, _], _ => rfl,
    m__law_symbols := PySem.W.mg_of X G a__law_symbols,
    k__law_symbols := k__law_symbols,
    f__law_roots := f__law_roots,
    fd__law_roots := _,
    F__law_roots := F__law_roots,
    bd__law_roots := F__law_roots.binds (ps := p__law_roots) fun _ _ _ _ _ _ us hl => match us, hl with | [_, _, _], _ => rfl,
    m__law_roots := PySem.W.mg_of X G a__law_roots,
    k__law_roots := k__law_roots,
    f__law_sizes := f__law_sizes,
    fd__law_sizes := _,
    F__law_sizes := F__law_sizes,
    bd__law_sizes := F__law_sizes.binds (ps := p__law_sizes) fun _ _ _ _ _ _ us hl => match us, hl with | [_], _ => rfl,
    m__law_sizes := PySem.W.mg_of X G a__law_sizes,
    k__law_sizes := k__law_sizes,
    f__law_texts := f__law_texts,
    fd__law_texts := _,
    F__law_texts := F__law_texts,
    bd__law_texts := F__law_texts.binds (ps := p__law_texts) fun _ _ _ _ _ _ us hl => match us, hl with | [_, _], _ => rfl,
    m__law_texts := PySem.W.mg_of X G a__law_texts,
    k__law_texts := k__law_texts,
    f__law_scan := f__law_scan,
    fd__law_scan := _,
    F__law_scan := F__law_scan,
    bd__law_scan := F__law_scan.binds (ps := p__law_scan) fun _ _ _ _ _ _ us hl => match us, hl with | [_, _], _ => rfl,
    m__law_scan := PySem.W.mg_of X G a__law_scan,
    k__law_scan := k__law_scan,
    f__law_edges := f__law_edges,
    fd__law_edges := _,
    F__law_edges := F__law_edges,
    bd__law_edges := F__law_edges.binds (ps := p__law_edges) fun _ _ _ _ _ _ us hl => match us, hl with | [_, _], _ => rfl,
    m__law_edges := PySem.W.mg_of X G a__law_edges,
    k__law_edges := k__law_edges,
    f__law_counts := f__law_counts,
    fd__law_counts := _,
    F__law_counts := F__law_counts,
    bd__law_counts := F__law_counts.binds (ps := p__law_counts) fun _ _ _ _ _ _ us hl => match us, hl with | [_, _], _ => rfl,
    m__law_counts := PySem.W.mg_of X G a__law_counts,
    k__law_counts := k__law_counts,
    f__law_word := f__law_word,
    fd__law_word := _,
    F__law_word := F__law_word,
    bd__law_word := F__law_word.binds (ps := p__law_word) fun _ _ _ _ _ _ us hl => match us, hl with | [_, _, _], _ => rfl,
    m__law_word := PySem.W.mg_of X G a__law_word,
    k__law_word := k__law_word,
    f__law_power := f__law_power,
    fd__law_power := _,
    F__law_power := F__law_power,
    bd__law_power := F__law_power.binds (ps := p__law_power) fun _ _ _ _ _ _ us hl => match us, hl with | [_], _ => rfl,
    m__law_power := PySem.W.mg_of X G a__law_power,
    k__law_power := k__law_power,
    f__law_known := f__law_known,
    fd__law_known := _,
    F__law_known := F__law_known,
    bd__law_known := F__law_known.binds (ps := p__law_known) fun _ _ _ _ _ _ us hl => match us, hl with | [_], _ => rfl,
    m__law_known := PySem.W.mg_of X G a__law_known,
    k__law_known := k__law_known,
    b_abs := PySem.W.mg_none_of X G z_abs,
    b_int := PySem.W.mg_none_of X G z_int,
    b_isinstance := PySem.W.mg_none_of X G z_isinstance,
    b_len := PySem.W.mg_none_of X G z_len,
    b_max := PySem.W.mg_none_of X G z_max,
    b_min := PySem.W.mg_none_of X G z_min,
    b_range := PySem.W.mg_none_of X G z_range,
    b_repr := PySem.W.mg_none_of X G z_repr,
    b_sum := PySem.W.mg_none_of X G z_sum }
  refine ⟨fun b ob e z => ?_, _, F_law, fun s u => .of_eq rfl, body_law T fa⟩
  exact nolist_of nolist e z

end K67
/-! how a word meets a text: the longest beginning of the word that ends the text (plain lists) -/
namespace KM
/-- the beginning of length k ends t -/
abbrev Sf (w t : List Nat) (k : Nat) : Prop := k ≤ w.length ∧ w.take k <:+ t
def bd (w t : List Nat) : Nat → Nat
  | 0 => 0
  | k + 1 => if w.take (k + 1) <:+ t then k + 1 else bd w t k
def bord (w t : List Nat) : Nat := bd w t w.length
theorem bd_le (w t : List Nat) : ∀ n, bd w t n ≤ n
  | 0 => Nat.le_refl _
  | n + 1 => by
    unfold bd
    split
    · exact Nat.le_refl _
    · exact Nat.le_succ_of_le (bd_le w t n)
theorem bd_sf (w t : List Nat) : ∀ n, w.take (bd w t n) <:+ t
  | 0 => by simp [bd]
  | n + 1 => by
    unfold bd
    split
    · assumption
    · exact bd_sf w t n
theorem bd_max (w t : List Nat) : ∀ n k, k ≤ n → w.take k <:+ t → k ≤ bd w t n
  | 0, k, h, _ => by simpa [bd] using h
  | n + 1, k, h, hk => by
    unfold bd
    split
    · exact h
    · rename_i hn
      have : k ≠ n + 1 := fun e => hn (e ▸ hk)
      exact bd_max w t n k (by omega) hk
theorem bord_le (w t : List Nat) : bord w t ≤ w.length := bd_le _ _ _
theorem bord_sf (w t : List Nat) : w.take (bord w t) <:+ t := bd_sf _ _ _
theorem bord_max {w t : List Nat} {k : Nat} (h : Sf w t k) : k ≤ bord w t := bd_max _ _ _ _ h.1 h.2
theorem bord_eq {w t : List Nat} {k : Nat} (h : Sf w t k) (hm : ∀ j, Sf w t j → j ≤ k) : bord w t = k := Nat.le_antisymm (hm _ ⟨bord_le w t, bord_sf w t⟩) (bord_max h)
theorem bord_ext {w t t' : List Nat} (h : ∀ k, Sf w t k ↔ Sf w t' k) : bord w t = bord w t' :=
  bord_eq ((h _).mpr ⟨bord_le w t', bord_sf w t'⟩) fun j hj => bord_max ((h j).mp hj)
theorem suf_app {X t u : List Nat} : X <:+ t ++ u ↔ X <:+ u ∨ ∃ Y, X = Y ++ u ∧ Y <:+ t := by
  constructor
  · rintro ⟨p, hp⟩
    rcases List.append_eq_append_iff.mp hp with ⟨a, h1, h2⟩ | ⟨a, h1, h2⟩
    · exact .inr ⟨a, h2, p, h1.symm⟩
    · exact .inl ⟨a, h2.symm⟩
  · rintro (h | ⟨Y, rfl, p, rfl⟩)
    · exact h.trans (List.suffix_append _ _)
    · exact ⟨p, by simp⟩
theorem bord_app (w t u : List Nat) : bord w (t ++ u) = bord w (w.take (bord w t) ++ u) := by
  refine bord_ext fun k => ?_
  constructor
  · rintro ⟨hk, h⟩
    refine ⟨hk, suf_app.mpr ?_⟩
    rcases suf_app.mp h with h | ⟨Y, e, hY⟩
    · exact .inl h
    · refine .inr ⟨Y, e, ?_⟩
      have hl : Y.length ≤ w.length := by
        have := congrArg List.length e
        simp at this
        omega
      have hY2 : Y = w.take Y.length := by
        have h1 : (w.take k).take Y.length = Y := by rw [e]; simp
        rw [List.take_take] at h1
        have : Y.length ≤ k := by
          have := congrArg List.length e
          simp at this
          omega
        rw [Nat.min_eq_left this] at h1
        exact h1.symm
      have hb : Y.length ≤ bord w t := bord_max ⟨hl, hY2 ▸ hY⟩
      exact List.suffix_of_suffix_length_le hY (bord_sf w t) (by rw [List.length_take]; have := bord_le w t; omega)
  · rintro ⟨hk, h⟩
    refine ⟨hk, h.trans ?_⟩
    obtain ⟨p, hp⟩ := bord_sf w t
    exact ⟨p, by rw [← List.append_assoc, hp]⟩
theorem bord_take {w : List Nat} {m : Nat} (h : m ≤ w.length) : bord w (w.take m) = m := by
  refine bord_eq ⟨h, List.suffix_refl _⟩ fun j hj => ?_
  have := hj.2.length_le
  simp at this
  omega
/-- the match behind u, from the match m -/
def st (w : List Nat) (m : Nat) (u : List Nat) : Nat := bord w (w.take m ++ u)
theorem st_le (w : List Nat) (m : Nat) (u : List Nat) : st w m u ≤ w.length := bord_le _ _
theorem st_nil {w : List Nat} {m : Nat} (h : m ≤ w.length) : st w m [] = m := by simp [st, bord_take h]
theorem st_app (w : List Nat) (m : Nat) (u v : List Nat) : st w m (u ++ v) = st w (st w m u) v := by
  unfold st
  rw [← List.append_assoc, bord_app]
theorem st_zero (w t : List Nat) : st w 0 t = bord w t := by simp [st]
/-- how often the whole word is met in u, from the match m -/
def ct (w : List Nat) (m : Nat) : List Nat → Nat
  | [] => 0
  | c :: u => (if st w m [c] = w.length then 1 else 0) + ct w (st w m [c]) u
theorem ct_app (w : List Nat) : ∀ (u : List Nat) (m : Nat) (v : List Nat), m ≤ w.length → ct w m (u ++ v) = ct w m u + ct w (st w m u) v
  | [], m, v, h => by simp [ct, st_nil h]
  | c :: u, m, v, h => by
    have ih := ct_app w u (st w m [c]) v (st_le _ _ _)
    rw [List.cons_append, ct, ih, ct, ← st_app]
    simp
    omega
theorem st_full {w t : List Nat} : bord w t = w.length ↔ w <:+ t := by
  constructor
  · intro h
    have := bord_sf w t
    rw [h, List.take_length] at this
    exact this
  · intro h
    exact bord_eq ⟨Nat.le_refl _, by rw [List.take_length]; exact h⟩ fun j hj => hj.1
/-- the places of w in t -/
def occ (w t : List Nat) : Nat := ((List.range (t.length + 1 - w.length)).filter fun k => decide ((t.drop k).take w.length = w)).length
theorem occ_snoc {w t : List Nat} {c : Nat} (hw : 0 < w.length) : occ w (t ++ [c]) = occ w t + if w <:+ t ++ [c] then 1 else 0 := by
  unfold occ
  rw [List.length_append]
  simp only [List.length_cons, List.length_nil]
  by_cases h : w.length ≤ t.length + 1
  · rw [show t.length + (0 + 1) + 1 - w.length = (t.length + 1 - w.length) + 1 by omega, List.range_succ, List.filter_append, List.length_append]
    congr 1
    · congr 1
      apply List.filter_congr
      intro k hk
      rw [List.mem_range] at hk
      rw [List.drop_append_of_le_length (by omega), List.take_append_of_le_length (by rw [List.length_drop]; omega)]
    · have e : (((t ++ [c]).drop (t.length + 1 - w.length)).take w.length = w) ↔ w <:+ t ++ [c] := by
        have hl : ((t ++ [c]).drop (t.length + 1 - w.length)).length = w.length := by simp; omega
        rw [List.take_of_length_le (by omega)]
        constructor
        · intro h; rw [← h]; exact List.drop_suffix _ _
        · intro h
          rw [List.suffix_iff_eq_drop] at h
          have h' : (t ++ [c]).length - w.length = t.length + 1 - w.length := by simp
          rw [h'] at h
          exact h.symm
      by_cases hs : w <:+ t ++ [c]
      · simp [e.mpr hs, hs]
      · have : ¬ (((t ++ [c]).drop (t.length + 1 - w.length)).take w.length = w) := fun z => hs (e.mp z)
        simp [this, hs]
  · have h1 : t.length + (0 + 1) + 1 - w.length = 0 := by omega
    have h2 : t.length + 1 - w.length = 0 := by omega
    rw [h1, h2]
    have : ¬ w <:+ t ++ [c] := fun z => by have := z.length_le; simp at this; omega
    simp [this]
theorem occ_ct {w : List Nat} (hw : 0 < w.length) (t : List Nat) : occ w t = ct w 0 t := by
  have key : ∀ s : List Nat, occ w s.reverse = ct w 0 s.reverse := by
    intro s
    induction s with
    | nil =>
      have h2 : ([] : List Nat).length + 1 - w.length = 0 := by simp; omega
      simp [occ, ct]
      omega
    | cons c s ih =>
      rw [List.reverse_cons, occ_snoc hw, ct_app w _ 0 _ (Nat.zero_le _), ih]
      congr 1
      simp only [ct, Nat.add_zero]
      rw [← st_app, st_zero]
      by_cases h : w <:+ s.reverse ++ [c]
      · rw [if_pos h, if_pos (st_full.mpr h)]
      · rw [if_neg h, if_neg (fun z => h (st_full.mp z))]
  have := key t.reverse
  rwa [List.reverse_reverse] at this
end KM

namespace DL
open PySem PySem.Spec L2
/-! ### symbols and their texts -/
inductive Sy where
  | L (c : Nat) | P (i j : Nat)
  deriving DecidableEq
def Sy.d : Sy → D
  | .L c => .tuple [.str "letter", .str (txS [c])]
  | .P i j => .tuple [.str "pair", .int i, .int j]
def txAdd (T : List (List Nat)) : Sy → List Nat
  | .L c => [c]
  | .P i j => T.getD i [] ++ T.getD j []
def txs (s : List Sy) : List (List Nat) := s.foldl (fun T x => T ++ [txAdd T x]) []
theorem txs_snoc (s : List Sy) (x : Sy) : txs (s ++ [x]) = txs s ++ [txAdd (txs s) x] := by simp [txs]
theorem snoc_ind {α : Type} {p : List α → Prop} (h0 : p []) (hs : ∀ s x, p s → p (s ++ [x])) (s : List α) : p s := by
  have : ∀ t : List α, p t.reverse := by
    intro t
    induction t with
    | nil => exact h0
    | cons x t ih => rw [List.reverse_cons]; exact hs _ _ ih
  have := this s.reverse
  rwa [List.reverse_reverse] at this
theorem txs_length (s : List Sy) : (txs s).length = s.length := by
  refine snoc_ind (p := fun s => (txs s).length = s.length) rfl (fun s x ih => ?_) s
  rw [txs_snoc]; simp [ih]
/-- pairs point back -/
structure WF (s : List Sy) : Prop where
  pair : ∀ (k i j : Nat), s[k]? = some (Sy.P i j) → i < k ∧ j < k
  let' : ∀ c, Sy.L c ∈ s → c < 128
theorem WF.nil : WF [] := ⟨fun k i j h => by simp at h, fun c h => nomatch h⟩
theorem WF.snoc {s : List Sy} {x : Sy} (h : WF s) (hx : match x with | .L c => c < 128 | .P i j => i < s.length ∧ j < s.length) : WF (s ++ [x]) := by
  constructor
  · intro k i j e
    by_cases hk : k < s.length
    · rw [List.getElem?_append_left hk] at e; exact h.pair k i j e
    · rw [List.getElem?_append_right (by omega)] at e
      have : k - s.length = 0 := by
        rcases Nat.eq_zero_or_pos (k - s.length) with z | z
        · exact z
        · rw [List.getElem?_eq_none (by simp; omega)] at e; cases e
      rw [this] at e
      simp at e
      subst e
      simp at hx
      omega
  · intro c e
    rcases List.mem_append.mp e with e | e
    · exact h.let' c e
    · simp at e; subst e; exact hx
theorem WF.take {s : List Sy} (h : WF s) (n : Nat) : WF (s.take n) := by
  constructor
  · intro k i j e
    rw [List.getElem?_take] at e
    split at e
    · exact h.pair k i j e
    · cases e
  · intro c e
    exact h.let' c (List.mem_of_mem_take e)
theorem txs_pre (s : List Sy) : ∀ (t : List Sy) (k : Nat), k < s.length → (txs (s ++ t))[k]? = (txs s)[k]? := by
  intro t
  refine snoc_ind (p := fun t => ∀ (k : Nat), k < s.length → (txs (s ++ t))[k]? = (txs s)[k]?) ?_ ?_ t
  · intro k _; simp
  · intro t x ih k hk
    rw [← List.append_assoc, txs_snoc, List.getElem?_append_left (by rw [txs_length]; simp; omega)]
    exact ih k hk
theorem txs_take {s : List Sy} {n k : Nat} (hk : k < n) (hn : n ≤ s.length) : (txs (s.take n))[k]? = (txs s)[k]? := by
  have := txs_pre (s.take n) (s.drop n) k (by rw [List.length_take]; omega)
  rw [List.take_append_drop] at this
  exact this.symm
/-- a text of a symbol -/
def tx (s : List Sy) (k : Nat) : List Nat := (txs s).getD k []
theorem tx_get {s : List Sy} {k : Nat} (h : k < s.length) : (txs s)[k]? = some (tx s k) := by
  unfold tx
  rw [List.getD_eq_getElem?_getD, List.getElem?_eq_getElem (by rw [txs_length]; exact h)]
  rfl
theorem tx_take {s : List Sy} {n k : Nat} (hk : k < n) (hn : n ≤ s.length) : tx (s.take n) k = tx s k := by
  unfold tx
  rw [List.getD_eq_getElem?_getD, List.getD_eq_getElem?_getD, txs_take hk hn]
theorem take_snoc {α : Type} {s : List α} {k : Nat} {x : α} (h : s[k]? = some x) : s.take (k + 1) = s.take k ++ [x] := by
  rw [List.take_succ, h]; rfl
theorem lt_of_get {α : Type} {s : List α} {k : Nat} {x : α} (h : s[k]? = some x) : k < s.length := (List.getElem?_eq_some_iff.mp h).1
theorem tx_at {s : List Sy} {k : Nat} {x : Sy} (h : s[k]? = some x) : tx s k = txAdd (txs (s.take k)) x := by
  have hk := lt_of_get h
  rw [← tx_take (Nat.lt_succ_self k) hk, take_snoc h]
  have hl : (txs (s.take k)).length = k := by rw [txs_length, List.length_take]; omega
  unfold tx
  rw [txs_snoc, List.getD_eq_getElem?_getD, List.getElem?_append_right (by omega), hl]
  simp
theorem tx_L {s : List Sy} {k c : Nat} (h : s[k]? = some (.L c)) : tx s k = [c] := tx_at h
theorem tx_P {s : List Sy} (w : WF s) {k i j : Nat} (h : s[k]? = some (.P i j)) : tx s k = tx s i ++ tx s j := by
  obtain ⟨hi, hj⟩ := w.pair k i j h
  have hk := lt_of_get h
  rw [tx_at h]
  show tx (s.take k) i ++ tx (s.take k) j = _
  rw [tx_take hi (by omega), tx_take hj (by omega)]
theorem tx_pos {s : List Sy} (w : WF s) : ∀ (n k : Nat), k ≤ n → k < s.length → 0 < (tx s k).length := by
  intro n
  induction n with
  | zero =>
    intro k hn hk
    cases h : s[k] with
    | L c => rw [tx_L (by rw [List.getElem?_eq_getElem hk, h])]; simp
    | P i j => have := w.pair k i j (by rw [List.getElem?_eq_getElem hk, h]); omega
  | succ n ih =>
    intro k hn hk
    cases h : s[k] with
    | L c => rw [tx_L (by rw [List.getElem?_eq_getElem hk, h])]; simp
    | P i j =>
      have e : s[k]? = some (.P i j) := by rw [List.getElem?_eq_getElem hk, h]
      have := w.pair k i j e
      rw [tx_P w e, List.length_append]
      have := ih i (by omega) (by omega)
      omega
/-- the letters are below 128 -/
theorem tx_low {s : List Sy} (w : WF s) : ∀ (n k : Nat), k ≤ n → k < s.length → ∀ c ∈ tx s k, c < 128 := by
  intro n
  induction n with
  | zero =>
    intro k hn hk c hc
    cases h : s[k] with
    | L c' =>
      rw [tx_L (by rw [List.getElem?_eq_getElem hk, h])] at hc
      simp at hc
      subst hc
      exact w.let' c (h ▸ List.getElem_mem hk)
    | P i j => have := w.pair k i j (by rw [List.getElem?_eq_getElem hk, h]); omega
  | succ n ih =>
    intro k hn hk c hc
    cases h : s[k] with
    | L c' =>
      rw [tx_L (by rw [List.getElem?_eq_getElem hk, h])] at hc
      simp at hc
      subst hc
      exact w.let' c (h ▸ List.getElem_mem hk)
    | P i j =>
      have e : s[k]? = some (.P i j) := by rw [List.getElem?_eq_getElem hk, h]
      have := w.pair k i j e
      rw [tx_P w e] at hc
      rcases List.mem_append.mp hc with hc | hc
      · exact ih i (by omega) (by omega) c hc
      · exact ih j (by omega) (by omega) c hc
/-! ### symbols as data -/
abbrev sy (s : List Sy) : D := .list (s.map Sy.d)
theorem sy_get {s : List Sy} {k : Nat} {x : Sy} (h : s[k]? = some x) : ixD (sy s) (.int (k : Int)) = some x.d := ix_nat (by simp [h])
theorem eqs {x y : Str} {b : Bool} (h : decide (x = y) = b) : eqD (.str x) (.str y) = some (.bool b) := by subst h; rfl
theorem nes {x y : Str} {b : Bool} (h : decide (x = y) = b) : neD (.str x) (.str y) = some (.bool !b) := by subst h; rfl
theorem str_pl : eqD (.str ("letter" : String)) (.str ("letter" : String)) = some (.bool true) := eqs (by decide +kernel)
theorem str_pp : eqD (.str ("pair" : String)) (.str ("letter" : String)) = some (.bool false) := eqs (by decide +kernel)
theorem str_lp : eqD (.str ("letter" : String)) (.str ("pair" : String)) = some (.bool false) := eqs (by decide +kernel)
theorem str_pq : eqD (.str ("pair" : String)) (.str ("pair" : String)) = some (.bool true) := eqs (by decide +kernel)
theorem d_L0 {c : Nat} : ixD (Sy.L c).d (.int 0) = some (.str ("letter" : String)) := rfl
theorem d_L1 {c : Nat} : ixD (Sy.L c).d (.int 1) = some (.str (txS [c])) := rfl
theorem d_P0 {i j : Nat} : ixD (Sy.P i j).d (.int 0) = some (.str ("pair" : String)) := rfl
theorem d_P1 {i j : Nat} : ixD (Sy.P i j).d (.int 1) = some (.int i) := rfl
theorem d_P2 {i j : Nat} : ixD (Sy.P i j).d (.int 2) = some (.int j) := rfl
/-- sizes of the first n -/
abbrev szl (s : List Sy) : D := .list ((txs s).map fun t => .int t.length)
theorem szl_get {s : List Sy} {k : Nat} (h : k < s.length) : ixD (szl s) (.int (k : Int)) = some (.int (tx s k).length) := ix_nat (by rw [List.getElem?_map, tx_get h]; rfl)
theorem szl_snoc {s : List Sy} {k : Nat} {x : Sy} (h : s[k]? = some x) : (.list (((txs (s.take k)).map fun t => PyData.int t.length) ++ [.int (tx s k).length]) : D) = szl (s.take (k + 1)) := by
  rw [szl, take_snoc h, txs_snoc, tx_at h]; simp
theorem map_get {α β : Type} {f : α → β} {s : List α} {k : Nat} {d : β} (h : (s.map f)[k]? = some d) : ∃ x, s[k]? = some x ∧ d = f x := by
  rw [List.getElem?_map] at h
  cases e : s[k]? with
  | none => rw [e] at h; cases h
  | some x => rw [e] at h; cases h; exact ⟨x, rfl, rfl⟩
theorem add_str {x y : Str} (h : x.length + y.length ≤ sizeLine) : addD (.str x) (.str y) = some (.str (x ++ y)) := if_pos h
theorem tx_list (cs : List Nat) : (txS cs).cps.toList = cs := by simp [txS]
theorem cut_to {α : Type} (xs : List α) (a : Nat) : cut xs none (some (a : Int)) = xs.take a := by
  have e : ¬ ((a : Int) < 0) := by omega
  simp only [cut, HT.sIx, if_neg e, List.drop_zero, Int.toNat_natCast, Nat.sub_zero]
  by_cases h : a ≤ xs.length
  · rw [Nat.min_eq_left h]
  · rw [Nat.min_eq_right (by omega), List.take_length, List.take_of_length_le (by omega)]
theorem cut_from {α : Type} (xs : List α) (a : Nat) : cut xs (some (a : Int)) none = xs.drop a := by
  have e : ¬ ((a : Int) < 0) := by omega
  simp only [cut, HT.sIx, if_neg e, Int.toNat_natCast]
  by_cases h : a ≤ xs.length
  · rw [Nat.min_eq_left h, List.take_of_length_le (by simp)]
  · rw [Nat.min_eq_right (by omega), List.drop_of_length_le (Nat.le_refl _), List.drop_of_length_le (by omega)]; simp
theorem sl_to {t : List Nat} {a : Nat} (h : t.length ≤ sizeLine) : slD (.str (txS t)) none (some (a : Int)) = some (.str (txS (t.take a))) := by
  have h' : (txS t).length ≤ sizeLine := by rw [txS_length]; exact h
  show (if (txS t).length ≤ sizeLine then some (PyData.str ⟨(cut (txS t).cps.toList none (some (a : Int))).toArray⟩) else none) = _
  rw [if_pos h', tx_list, cut_to]
  rfl
theorem sl_from {t : List Nat} {a : Nat} (h : t.length ≤ sizeLine) : slD (.str (txS t)) (some (a : Int)) none = some (.str (txS (t.drop a))) := by
  have h' : (txS t).length ≤ sizeLine := by rw [txS_length]; exact h
  show (if (txS t).length ≤ sizeLine then some (PyData.str ⟨(cut (txS t).cps.toList (some (a : Int)) none).toArray⟩) else none) = _
  rw [if_pos h', tx_list, cut_from]
  rfl
theorem min_nat (a b : Nat) : (if (b : Int) < (a : Int) then (b : Int) else (a : Int)) = ((min a b : Nat) : Int) := by
  split <;> omega
theorem ne_txt (x y : List Nat) : neD (.str (txS x)) (.str (txS y)) = some (.bool (!decide (x = y))) := by
  show some (PyData.bool (!decide (txS x = txS y))) = _
  by_cases h : x = y
  · subst h; simp
  · have h2 : ¬ txS x = txS y := fun z => h (txS_inj z)
    rw [decide_eq_false h, decide_eq_false h2]
end DL

namespace K67
open PySem PySem.Spec L2 DL
/-- one letter on from the match m -/
theorem behind_ok {w : List Nat} {m c : Nat} (hw : w.length ≤ 1000) (hm : m ≤ w.length) : m_match_behind [.str (txS w), .int m, .str (txS [c])] = .ok (.int (KM.st w m [c])) := by
  suffices H : ∃ x, o_match_behind [some (.str (txS w)), some (.int m), some (.str (txS [c])), none, none] = x ∧ x = .rt (.int (KM.st w m [c])) by
    obtain ⟨x, h1, rfl⟩ := H
    exact run_rt h1
  have zw : w.length ≤ sizeLine := sz_ge (by omega)
  have zl : (w.take m ++ [c]).length ≤ sizeLine := sz_ge (by simp; omega)
  have a1 := sl_to (a := m) zw
  have a2 : addD (.str (txS (w.take m))) (.str (txS [c])) = some (.str (txS (w.take m ++ [c]))) := by
    rw [add_str (sz_ge (by rw [txS_length, txS_length]; simp; omega)), txS_append]
  refine seq_ex (e := [some (.str (txS w)), some (.int m), some (.str (txS [c])), some (.str (txS (w.take m ++ [c]))), none]) ?_ ?_
  · simp only [ap_var, ap_c, ap_m1, ap_m2, ap_m3, ap_part, ap_nopart, ap_if, ap_isN, ap_notN, ap_list, ap_tup, ap_nil, ap_cons, ap_cb, ap_m1m, ap_chain, ap_isi, ap_mB, ap_asB, ap_and, ap_or, ap_not, ap_yes, ap_call, ap_lc, ap_noX, ap_iseq, ap_iown, ap_seq, th_nx, th_rt, th_exc, ap_skip, ap_set, ap_asg, ap_aug, ap_lm, ap_put, ap_oif, ap_ret, ap_drop, ap_raise, ap_gN, ap_gT, ap_gsN, ap_gsC, ap_app, Res.bind_ok, Res.bind_exc, Res.of_some, exOut_ok, exOut_exc, wipeE, Option.bind_some, List.length_cons, List.length_nil, List.getElem?_cons_zero, List.getElem?_cons_succ, List.set_cons_zero, List.set_cons_succ, List.map_cons, List.map_nil, add_ii, sub_ii, cmpI, negD, modD, ap_lenL, ap_lenT, intD, int1, int2, walkD, if_true, if_false, decide_eq_true_eq, Bool.false_eq_true, reduceIte, Nat.reduceAdd, Nat.reduceSub, List.replicate_succ, List.replicate_zero, List.cons_append, List.nil_append, a1, a2]
  refine seq_ex (e := [some (.str (txS w)), some (.int m), some (.str (txS [c])), some (.str (txS (w.take m ++ [c]))), some (.int (min w.length (w.take m ++ [c]).length : Nat))]) ?_ ?_
  · simp only [ap_set, ap_cb, ap_cons, ap_nil, ap_var, Res.bind_ok, Res.of_some, exOut_ok, List.getElem?_cons_zero, List.getElem?_cons_succ, List.set_cons_zero, List.set_cons_succ, ap_lenS zw, ap_lenS zl, int2, min_nat]
  have hst : KM.st w m [c] ≤ min w.length (w.take m ++ [c]).length := by
    have h1 := KM.st_le w m [c]
    have h2 := (KM.bord_sf w (w.take m ++ [c])).length_le
    have h3 : KM.bord w (w.take m ++ [c]) ≤ w.length := KM.bord_le _ _
    rw [List.length_take, Nat.min_eq_left h3] at h2
    exact Nat.le_min.mpr ⟨h1, h2⟩
  have sfx : ∀ k, k ≤ min w.length (w.take m ++ [c]).length → ((w.take m ++ [c]).drop ((w.take m ++ [c]).length - k) = w.take k ↔ w.take k <:+ w.take m ++ [c]) := by
    intro k hk
    have hk1 := Nat.le_trans hk (Nat.min_le_left _ _)
    have hk2 := Nat.le_trans hk (Nat.min_le_right _ _)
    constructor
    · intro h; rw [← h]; exact List.drop_suffix _ _
    · intro h
      rw [List.suffix_iff_eq_drop] at h
      rw [List.length_take, Nat.min_eq_left hk1] at h
      exact h.symm
  have hnc : ∀ k, k ≤ min w.length (w.take m ++ [c]).length → (mB (m2 neD (m3 slD (mVar 3) (mPart (m2 subD (mCB lenD (aCons (mVar 3) aNil)) (mVar 4))) mNoPart) (m3 slD (mVar 0) mNoPart (mPart (mVar 4))))) [some (.str (txS w)), some (.int m), some (.str (txS [c])), some (.str (txS (w.take m ++ [c]))), some (.int (k : Int))] = .ok (!decide (w.take k <:+ w.take m ++ [c])) := by
    intro k hk
    have hk2 := Nat.le_trans hk (Nat.min_le_right _ _)
    have b1 : slD (.str (txS (w.take m ++ [c]))) (some (((w.take m ++ [c]).length : Int) - (k : Int))) none = some (.str (txS ((w.take m ++ [c]).drop ((w.take m ++ [c]).length - k)))) := by
      rw [show ((w.take m ++ [c]).length : Int) - (k : Int) = (((w.take m ++ [c]).length - k : Nat) : Int) by omega]
      exact sl_from zl
    have b2 := sl_to (a := k) zw
    simp only [ap_mB, ap_asB, ap_m2, ap_m3, ap_part, ap_nopart, ap_cb, ap_cons, ap_nil, ap_var, Res.bind_ok, Res.of_some, List.getElem?_cons_zero, List.getElem?_cons_succ, ap_lenS zl, subD, b1, b2, ne_txt, sfx k hk]
  refine seq_while (fun n e => ∃ k : Nat, e = [some (.str (txS w)), some (.int m), some (.str (txS [c])), some (.str (txS (w.take m ++ [c]))), some (.int (k : Int))] ∧ k ≤ min w.length (w.take m ++ [c]).length ∧ KM.st w m [c] ≤ k ∧ n = k) (min w.length (w.take m ++ [c]).length) ?_ ⟨_, rfl, Nat.le_refl _, hst, rfl⟩ ?_ ?_
  · have := Nat.min_le_left w.length (w.take m ++ [c]).length
    show _ < 1000000000
    omega
  · rintro n e ⟨k, rfl, h1, h2, rfl⟩
    by_cases hs : w.take n <:+ w.take m ++ [c]
    · exact .inl (by rw [hnc n h1, decide_eq_true hs]; rfl)
    · refine .inr ⟨by rw [hnc n h1, decide_eq_false hs]; rfl, ?_⟩
      have h0 : n ≠ 0 := fun z => hs (by subst z; simp)
      have hne : n ≠ KM.st w m [c] := fun z => hs (by rw [z]; exact KM.bord_sf w (w.take m ++ [c]))
      refine ⟨_, n - 1, ?_, by omega, n - 1, rfl, by omega, by omega, rfl⟩
      rw [show ((n - 1 : Nat) : Int) = (n : Int) - 1 by omega]
      simp only [ap_var, ap_c, ap_m1, ap_m2, ap_m3, ap_part, ap_nopart, ap_if, ap_isN, ap_notN, ap_list, ap_tup, ap_nil, ap_cons, ap_cb, ap_m1m, ap_chain, ap_isi, ap_mB, ap_asB, ap_and, ap_or, ap_not, ap_yes, ap_call, ap_lc, ap_noX, ap_iseq, ap_iown, ap_seq, th_nx, th_rt, th_exc, ap_skip, ap_set, ap_asg, ap_aug, ap_lm, ap_put, ap_oif, ap_ret, ap_drop, ap_raise, ap_gN, ap_gT, ap_gsN, ap_gsC, ap_app, Res.bind_ok, Res.bind_exc, Res.of_some, exOut_ok, exOut_exc, wipeE, Option.bind_some, List.length_cons, List.length_nil, List.getElem?_cons_zero, List.getElem?_cons_succ, List.set_cons_zero, List.set_cons_succ, List.map_cons, List.map_nil, addD, subD, cmpI, negD, modD, ap_lenL, ap_lenT, intD, int1, int2, walkD, if_true, if_false, decide_eq_true_eq, Bool.false_eq_true, reduceIte, Nat.reduceAdd, Nat.reduceSub, List.replicate_succ, List.replicate_zero, List.cons_append, List.nil_append]
  · rintro n e ⟨k, rfl, h1, h2, rfl⟩ hc
    rw [hnc n h1] at hc
    have hs : w.take n <:+ w.take m ++ [c] := by
      by_cases hs : w.take n <:+ w.take m ++ [c]
      · exact hs
      · rw [decide_eq_false hs] at hc; cases hc
    have hle : n ≤ KM.st w m [c] := KM.bord_max ⟨Nat.le_trans h1 (Nat.min_le_left _ _), hs⟩
    refine ⟨_, ?_, rfl⟩
    rw [show KM.st w m [c] = n by omega]
    simp only [ap_var, ap_c, ap_m1, ap_m2, ap_m3, ap_part, ap_nopart, ap_if, ap_isN, ap_notN, ap_list, ap_tup, ap_nil, ap_cons, ap_cb, ap_m1m, ap_chain, ap_isi, ap_mB, ap_asB, ap_and, ap_or, ap_not, ap_yes, ap_call, ap_lc, ap_noX, ap_iseq, ap_iown, ap_seq, th_nx, th_rt, th_exc, ap_skip, ap_set, ap_asg, ap_aug, ap_lm, ap_put, ap_oif, ap_ret, ap_drop, ap_raise, ap_gN, ap_gT, ap_gsN, ap_gsC, ap_app, Res.bind_ok, Res.bind_exc, Res.of_some, exOut_ok, exOut_exc, wipeE, Option.bind_some, List.length_cons, List.length_nil, List.getElem?_cons_zero, List.getElem?_cons_succ, List.set_cons_zero, List.set_cons_succ, List.map_cons, List.map_nil, addD, subD, cmpI, negD, modD, ap_lenL, ap_lenT, intD, int1, int2, walkD, if_true, if_false, decide_eq_true_eq, Bool.false_eq_true, reduceIte, Nat.reduceAdd, Nat.reduceSub, List.replicate_succ, List.replicate_zero, List.cons_append, List.nil_append]
end K67

namespace K67
open PySem PySem.Spec L2 DL
def cellD (w t : List Nat) (m : Nat) : D := .tuple [.int (KM.st w m t), .int (KM.ct w m t)]
def rowp (w t : List Nat) (n : Nat) : List D := (List.range n).map (cellD w t)
def rowD (w t : List Nat) : D := .list (rowp w t (w.length + 1))
abbrev mtl (w : List Nat) (s : List Sy) : D := .list ((txs s).map (rowD w))
theorem mtl_get {w : List Nat} {s : List Sy} {k : Nat} (h : k < s.length) : ixD (mtl w s) (.int (k : Int)) = some (rowD w (tx s k)) := ix_nat (by rw [List.getElem?_map, tx_get h]; rfl)
theorem row_get {w t : List Nat} {m : Nat} (h : m ≤ w.length) : ixD (rowD w t) (.int (m : Int)) = some (cellD w t m) := ix_nat (by
  unfold rowp
  rw [List.getElem?_map, List.getElem?_range (by omega)]
  rfl)
theorem mtl_snoc {w : List Nat} {s : List Sy} {k : Nat} {x : Sy} (h : s[k]? = some x) : (.list ((txs (s.take k)).map (rowD w) ++ [rowD w (tx s k)]) : D) = mtl w (s.take (k + 1)) := by
  rw [mtl, take_snoc h, txs_snoc, tx_at h]; simp
theorem rowp_snoc (w t : List Nat) (n : Nat) : rowp w t n ++ [cellD w t n] = rowp w t (n + 1) := by
  unfold rowp
  rw [List.range_succ]
  simp
theorem cell_pair {w ti tj : List Nat} {m : Nat} (h : m ≤ w.length) : cellD w (ti ++ tj) m = .tuple [.int (KM.st w (KM.st w m ti) tj), .int ((KM.ct w m ti : Int) + (KM.ct w (KM.st w m ti) tj : Int))] := by
  unfold cellD
  rw [KM.st_app, KM.ct_app w ti m tj h]
  simp
theorem meetings_ok {s : List Sy} (wf : WF s) (hz : s.length < 1000) {R : D} {w : List Nat} (hw : w.length ≤ 1000) : m_meetings [.tuple [sy s, R], .str (txS w)] = .ok (mtl w s) := by
  suffices H : ∃ x, o_meetings [some (.tuple [sy s, R]), some (.str (txS w)), none, none, none, none, none, none, none, none] = x ∧ x = .rt (mtl w s) by
    obtain ⟨x, h1, rfl⟩ := H
    exact run_rt h1
  have zw : w.length ≤ sizeLine := sz_ge (by omega)
  have z0 : 0 ≤ sizeLine := sz_ge (by omega)
  have z2 : 2 ≤ sizeLine := sz_ge (by omega)
  have i0 : ixD (.tuple [sy s, R]) (.int 0) = some (sy s) := ix_tup (n := 0) rfl
  refine seq_ex (e := [some (.tuple [sy s, R]), some (.str (txS w)), some (mtl w []), none, none, none, none, none, none, none]) ?_ ?_
  · simp only [ap_var, ap_c, ap_m1, ap_m2, ap_m3, ap_part, ap_nopart, ap_if, ap_isN, ap_notN, ap_list, ap_tup, ap_nil, ap_cons, ap_cb, ap_m1m, ap_chain, ap_isi, ap_mB, ap_asB, ap_and, ap_or, ap_not, ap_yes, ap_call, ap_lc, ap_noX, ap_iseq, ap_iown, ap_seq, th_nx, th_rt, th_exc, ap_skip, ap_set, ap_asg, ap_aug, ap_lm, ap_put, ap_oif, ap_ret, ap_drop, ap_raise, ap_gN, ap_gT, ap_gsN, ap_gsC, ap_app, Res.bind_ok, Res.bind_exc, Res.of_some, exOut_ok, exOut_exc, wipeE, Option.bind_some, List.length_cons, List.length_nil, List.getElem?_cons_zero, List.getElem?_cons_succ, List.set_cons_zero, List.set_cons_succ, List.map_cons, List.map_nil, add_ii, sub_ii, cmpI, negD, modD, ap_lenL, ap_lenT, intD, int1, int2, walkD, if_true, if_false, decide_eq_true_eq, Bool.false_eq_true, reduceIte, Nat.reduceAdd, Nat.reduceSub, List.replicate_succ, List.replicate_zero, List.cons_append, List.nil_append, z0]
    rfl
  refine seq_for (fun n e => ∃ j3 j4 j5 j6 j7 j8 j9 : Option D, e = [some (.tuple [sy s, R]), some (.str (txS w)), some (mtl w (s.take n)), j3, j4, j5, j6, j7, j8, j9]) (s.map Sy.d) ?_ ⟨_, _, _, _, _, _, _, rfl⟩ ?_ ?_
  · simp only [ap_var, ap_c, ap_m1, ap_m2, ap_m3, ap_part, ap_nopart, ap_if, ap_isN, ap_notN, ap_list, ap_tup, ap_nil, ap_cons, ap_cb, ap_m1m, ap_chain, ap_isi, ap_mB, ap_asB, ap_and, ap_or, ap_not, ap_yes, ap_call, ap_lc, ap_noX, ap_iseq, ap_iown, ap_seq, th_nx, th_rt, th_exc, ap_skip, ap_set, ap_asg, ap_aug, ap_lm, ap_put, ap_oif, ap_ret, ap_drop, ap_raise, ap_gN, ap_gT, ap_gsN, ap_gsC, ap_app, Res.bind_ok, Res.bind_exc, Res.of_some, exOut_ok, exOut_exc, wipeE, Option.bind_some, List.length_cons, List.length_nil, List.getElem?_cons_zero, List.getElem?_cons_succ, List.set_cons_zero, List.set_cons_succ, List.map_cons, List.map_nil, add_ii, sub_ii, cmpI, negD, modD, ap_lenL, ap_lenT, intD, int1, int2, walkD, if_true, if_false, decide_eq_true_eq, Bool.false_eq_true, reduceIte, Nat.reduceAdd, Nat.reduceSub, List.replicate_succ, List.replicate_zero, List.cons_append, List.nil_append, i0]
  · rintro n d e hd ⟨j3, j4, j5, j6, j7, j8, j9, rfl⟩
    obtain ⟨x, hx, rfl⟩ := map_get hd
    have hn := lt_of_get hx
    have hz2 : ((txs (s.take n)).map (rowD w)).length < sizeLine := sz_gt (by simp [txs_length]; omega)
    suffices HH : ∃ o, (oSeq (oSet 4 (mList aNil)) (oSeq (oFor (iRange (aCons (m2 addD (mCB lenD (aCons (mVar 1) aNil)) (mC (.int 1))) aNil)) (gN 5) (oSeq (oIf (mB (m2 eqD (m2 ixD (mVar 3) (mC (.int 0))) (mC (.str "letter")))) (oSeq (oSet 6 (mCall m_match_behind (aCons (mVar 1) (aCons (mVar 5) (aCons (m2 ixD (mVar 3) (mC (.int 1))) aNil))))) (oLM 4 lApp (aCons (mTup (aCons (mVar 6) (aCons (mCB intD (aCons (m2 eqD (mVar 6) (mCB lenD (aCons (mVar 1) aNil))) aNil)) aNil))) aNil))) (oSeq (oAsg (m2 ixD (m2 ixD (mVar 2) (m2 ixD (mVar 3) (mC (.int 1)))) (mVar 5)) (gT' 2 (gsC (gN 7) (gsC (gN 8) gsN)))) (oSeq (oAsg (m2 ixD (m2 ixD (mVar 2) (m2 ixD (mVar 3) (mC (.int 2)))) (mVar 7)) (gT' 2 (gsC (gN 6) (gsC (gN 9) gsN)))) (oSeq (oLM 4 lApp (aCons (mTup (aCons (mVar 6) (aCons (m2 addD (mVar 8) (mVar 9)) aNil))) aNil)) oSkip)))) oSkip)) (oSeq (oLM 2 lApp (aCons (mVar 4) aNil)) oSkip))) [some (.tuple [sy s, R]), some (.str (txS w)), some (mtl w (s.take n)), some x.d, j4, j5, j6, j7, j8, j9] = o ∧ ∃ j3 j4 j5 j6 j7 j8 j9 : Option D, o = .nx [some (.tuple [sy s, R]), some (.str (txS w)), some (mtl w (s.take (n + 1))), j3, j4, j5, j6, j7, j8, j9] by
      obtain ⟨o, h1, a3, a4, a5, a6, a7, a8, a9, h2⟩ := HH
      exact ⟨_, _, rfl, h1.trans h2, a3, a4, a5, a6, a7, a8, a9, rfl⟩
    refine seq_ex (e := [some (.tuple [sy s, R]), some (.str (txS w)), some (mtl w (s.take n)), some x.d, some (.list (rowp w (tx s n) 0)), j5, j6, j7, j8, j9]) ?_ ?_
    · simp only [ap_var, ap_c, ap_m1, ap_m2, ap_m3, ap_part, ap_nopart, ap_if, ap_isN, ap_notN, ap_list, ap_tup, ap_nil, ap_cons, ap_cb, ap_m1m, ap_chain, ap_isi, ap_mB, ap_asB, ap_and, ap_or, ap_not, ap_yes, ap_call, ap_lc, ap_noX, ap_iseq, ap_iown, ap_seq, th_nx, th_rt, th_exc, ap_skip, ap_set, ap_asg, ap_aug, ap_lm, ap_put, ap_oif, ap_ret, ap_drop, ap_raise, ap_gN, ap_gT, ap_gsN, ap_gsC, ap_app, Res.bind_ok, Res.bind_exc, Res.of_some, exOut_ok, exOut_exc, wipeE, Option.bind_some, List.length_cons, List.length_nil, List.getElem?_cons_zero, List.getElem?_cons_succ, List.set_cons_zero, List.set_cons_succ, List.map_cons, List.map_nil, add_ii, sub_ii, cmpI, negD, modD, ap_lenL, ap_lenT, intD, int1, int2, walkD, if_true, if_false, decide_eq_true_eq, Bool.false_eq_true, reduceIte, Nat.reduceAdd, Nat.reduceSub, List.replicate_succ, List.replicate_zero, List.cons_append, List.nil_append, z0]
      rfl
    refine seq_for (fun m e => ∃ j5 j6 j7 j8 j9 : Option D, e = [some (.tuple [sy s, R]), some (.str (txS w)), some (mtl w (s.take n)), some x.d, some (.list (rowp w (tx s n) m)), j5, j6, j7, j8, j9]) (rng 0 (w.length + 1)) ?_ ⟨_, _, _, _, _, rfl⟩ ?_ ?_
    · refine irange_ok (l := [.int (w.length + 1 : Nat)]) ?_ (range1 (by omega))
      simp only [ap_var, ap_c, ap_m1, ap_m2, ap_m3, ap_part, ap_nopart, ap_if, ap_isN, ap_notN, ap_list, ap_tup, ap_nil, ap_cons, ap_cb, ap_m1m, ap_chain, ap_isi, ap_mB, ap_asB, ap_and, ap_or, ap_not, ap_yes, ap_call, ap_lc, ap_noX, ap_iseq, ap_iown, ap_seq, th_nx, th_rt, th_exc, ap_skip, ap_set, ap_asg, ap_aug, ap_lm, ap_put, ap_oif, ap_ret, ap_drop, ap_raise, ap_gN, ap_gT, ap_gsN, ap_gsC, ap_app, Res.bind_ok, Res.bind_exc, Res.of_some, exOut_ok, exOut_exc, wipeE, Option.bind_some, List.length_cons, List.length_nil, List.getElem?_cons_zero, List.getElem?_cons_succ, List.set_cons_zero, List.set_cons_succ, List.map_cons, List.map_nil, add_ii, sub_ii, cmpI, negD, modD, ap_lenL, ap_lenT, intD, int1, int2, walkD, if_true, if_false, decide_eq_true_eq, Bool.false_eq_true, reduceIte, Nat.reduceAdd, Nat.reduceSub, List.replicate_succ, List.replicate_zero, List.cons_append, List.nil_append, ap_lenS zw]
      rfl
    · rintro m d e hd ⟨j5, j6, j7, j8, j9, rfl⟩
      rw [rng_get] at hd
      split at hd <;> cases hd
      rename_i hm
      rw [Int.zero_add]
      have hmw : m ≤ w.length := by omega
      have hz3 : (rowp w (tx s n) m).length < sizeLine := sz_gt (by simp [rowp]; omega)
      cases x with
      | L c =>
        have e1 := behind_ok (c := c) hw hmw
        have e2 : eqD (.int (KM.st w m [c] : Int)) (.int (w.length : Int)) = some (.bool (decide (KM.st w m [c] = w.length))) := by
          show some (PyData.bool (decide ((KM.st w m [c] : Int) = (w.length : Int)))) = _
          by_cases h : KM.st w m [c] = w.length
          · rw [decide_eq_true h, decide_eq_true (by omega)]
          · rw [decide_eq_false h, decide_eq_false (by omega)]
        have e3 : PyData.tuple [.int (KM.st w m [c]), .int (if decide (KM.st w m [c] = w.length) = true then 1 else 0)] = cellD w (tx s n) m := by
          rw [tx_L hx, cellD]
          by_cases h : KM.st w m [c] = w.length
          · simp [KM.ct, h]
          · simp [KM.ct, h]
        refine ⟨_, [some (.tuple [sy s, R]), some (.str (txS w)), some (mtl w (s.take n)), some (Sy.L c).d, some (.list (rowp w (tx s n) (m + 1))), some (.int (m : Int)), some (.int (KM.st w m [c])), j7, j8, j9], rfl, ?_, _, _, _, _, _, rfl⟩
        rw [← rowp_snoc, ← e3]
        simp only [ap_seq, th_nx, ap_skip, ap_oif, ap_mB, ap_asB, ap_m2, ap_c, ap_var, ap_set, ap_call, ap_cons, ap_nil, ap_lm, ap_tup, ap_cb, ap_app, Res.bind_ok, Res.of_some, exOut_ok, List.getElem?_cons_zero, List.getElem?_cons_succ, List.set_cons_zero, List.set_cons_succ, List.length_cons, List.length_nil, Nat.reduceAdd, if_true, z2, d_L0, d_L1, str_pl, e1, ap_lenS zw, e2, intD, hz3]
      | P i j =>
        obtain ⟨hi, hj⟩ := wf.pair n i j hx
        have g1 := mtl_get (w := w) (s := s.take n) (k := i) (by simp; omega)
        have g2 := mtl_get (w := w) (s := s.take n) (k := j) (by simp; omega)
        rw [tx_take hi (by omega)] at g1
        rw [tx_take hj (by omega)] at g2
        have r1 := row_get (t := tx s i) hmw
        have r2 := row_get (t := tx s j) (KM.st_le w m (tx s i))
        have e3 := cell_pair (ti := tx s i) (tj := tx s j) hmw
        rw [← tx_P wf hx] at e3
        rw [cellD] at r1 r2
        refine ⟨_, [some (.tuple [sy s, R]), some (.str (txS w)), some (mtl w (s.take n)), some (Sy.P i j).d, some (.list (rowp w (tx s n) (m + 1))), some (.int (m : Int)), some (.int (KM.st w (KM.st w m (tx s i)) (tx s j))), some (.int (KM.st w m (tx s i))), some (.int (KM.ct w m (tx s i))), some (.int (KM.ct w (KM.st w m (tx s i)) (tx s j)))], rfl, ?_, _, _, _, _, _, rfl⟩
        rw [← rowp_snoc, e3]
        simp only [ap_var, ap_c, ap_m1, ap_m2, ap_m3, ap_part, ap_nopart, ap_if, ap_isN, ap_notN, ap_list, ap_tup, ap_nil, ap_cons, ap_cb, ap_m1m, ap_chain, ap_isi, ap_mB, ap_asB, ap_and, ap_or, ap_not, ap_yes, ap_call, ap_lc, ap_noX, ap_iseq, ap_iown, ap_seq, th_nx, th_rt, th_exc, ap_skip, ap_set, ap_asg, ap_aug, ap_lm, ap_put, ap_oif, ap_ret, ap_drop, ap_raise, ap_gN, ap_gT, ap_gsN, ap_gsC, ap_app, Res.bind_ok, Res.bind_exc, Res.of_some, exOut_ok, exOut_exc, wipeE, Option.bind_some, List.length_cons, List.length_nil, List.getElem?_cons_zero, List.getElem?_cons_succ, List.set_cons_zero, List.set_cons_succ, List.map_cons, List.map_nil, add_ii, sub_ii, cmpI, negD, modD, ap_lenL, ap_lenT, intD, int1, int2, walkD, if_true, if_false, decide_eq_true_eq, Bool.false_eq_true, reduceIte, Nat.reduceAdd, Nat.reduceSub, List.replicate_succ, List.replicate_zero, List.cons_append, List.nil_append, z2, d_P0, d_P1, d_P2, str_pp, g1, g2, r1, r2, hz3]
    · rintro e ⟨j5, j6, j7, j8, j9, rfl⟩
      have hl : (rng 0 (w.length + 1)).length = w.length + 1 := by simp [rng]
      rw [hl]
      refine ⟨.nx [some (.tuple [sy s, R]), some (.str (txS w)), some (mtl w (s.take (n + 1))), some x.d, some (.list (rowp w (tx s n) (w.length + 1))), j5, j6, j7, j8, j9], ?_, _, _, _, _, _, _, _, rfl⟩
      rw [← mtl_snoc hx]
      simp only [ap_var, ap_c, ap_m1, ap_m2, ap_m3, ap_part, ap_nopart, ap_if, ap_isN, ap_notN, ap_list, ap_tup, ap_nil, ap_cons, ap_cb, ap_m1m, ap_chain, ap_isi, ap_mB, ap_asB, ap_and, ap_or, ap_not, ap_yes, ap_call, ap_lc, ap_noX, ap_iseq, ap_iown, ap_seq, th_nx, th_rt, th_exc, ap_skip, ap_set, ap_asg, ap_aug, ap_lm, ap_put, ap_oif, ap_ret, ap_drop, ap_raise, ap_gN, ap_gT, ap_gsN, ap_gsC, ap_app, Res.bind_ok, Res.bind_exc, Res.of_some, exOut_ok, exOut_exc, wipeE, Option.bind_some, List.length_cons, List.length_nil, List.getElem?_cons_zero, List.getElem?_cons_succ, List.set_cons_zero, List.set_cons_succ, List.map_cons, List.map_nil, add_ii, sub_ii, cmpI, negD, modD, ap_lenL, ap_lenT, intD, int1, int2, walkD, if_true, if_false, decide_eq_true_eq, Bool.false_eq_true, reduceIte, Nat.reduceAdd, Nat.reduceSub, List.replicate_succ, List.replicate_zero, List.cons_append, List.nil_append, hz2]
      rfl
  · rintro e ⟨j3, j4, j5, j6, j7, j8, j9, rfl⟩
    refine ⟨_, ?_, rfl⟩
    simp only [ap_var, ap_c, ap_m1, ap_m2, ap_m3, ap_part, ap_nopart, ap_if, ap_isN, ap_notN, ap_list, ap_tup, ap_nil, ap_cons, ap_cb, ap_m1m, ap_chain, ap_isi, ap_mB, ap_asB, ap_and, ap_or, ap_not, ap_yes, ap_call, ap_lc, ap_noX, ap_iseq, ap_iown, ap_seq, th_nx, th_rt, th_exc, ap_skip, ap_set, ap_asg, ap_aug, ap_lm, ap_put, ap_oif, ap_ret, ap_drop, ap_raise, ap_gN, ap_gT, ap_gsN, ap_gsC, ap_app, Res.bind_ok, Res.bind_exc, Res.of_some, exOut_ok, exOut_exc, wipeE, Option.bind_some, List.length_cons, List.length_nil, List.getElem?_cons_zero, List.getElem?_cons_succ, List.set_cons_zero, List.set_cons_succ, List.map_cons, List.map_nil, add_ii, sub_ii, cmpI, negD, modD, ap_lenL, ap_lenT, intD, int1, int2, walkD, if_true, if_false, decide_eq_true_eq, Bool.false_eq_true, reduceIte, Nat.reduceAdd, Nat.reduceSub, List.replicate_succ, List.replicate_zero, List.cons_append, List.nil_append]
    simp
end K67

namespace K67
open PySem PySem.Spec L2 DL
abbrev li (ns : List Int) : D := .list (ns.map .int)
theorem ix_li {ns : List Int} {i : Int} {n : Nat} {v : Int} (hi : i = n) (h : ns[n]? = some v) : ixD (li ns) (.int i) = some (.int v) := ix_int hi (by simp [h])
theorem mod_nat (a : Int) {n : Nat} (h : 0 < n) : ∃ k : Nat, a % (n : Int) = k ∧ k < n := by
  have h0 := Int.emod_nonneg a (show (n : Int) ≠ 0 by omega)
  have h1 := Int.emod_lt_of_pos a (show (0 : Int) < (n : Int) by omega)
  obtain ⟨k, hn⟩ := Int.eq_ofNat_of_zero_le h0
  exact ⟨k, hn, by omega⟩
theorem drawn_ok {ns : List Int} {a : Int} (h : 0 < ns.length) : ∃ v ∈ ns, m__law_drawn [li ns, .int a] = .ok (.int v) := by
  have hp : (0 : Int) < (ns.length : Int) := by omega
  obtain ⟨n, hn, hl⟩ := mod_nat a h
  refine ⟨ns[n], List.getElem_mem hl, ?_⟩
  refine run_rt ?_
  simp only [o__law_drawn, ap_var, ap_c, ap_m1, ap_m2, ap_m3, ap_part, ap_nopart, ap_if, ap_isN, ap_notN, ap_list, ap_tup, ap_nil, ap_cons, ap_cb, ap_m1m, ap_chain, ap_isi, ap_mB, ap_asB, ap_and, ap_or, ap_not, ap_yes, ap_call, ap_lc, ap_noX, ap_iseq, ap_iown, ap_seq, th_nx, th_rt, th_exc, ap_skip, ap_set, ap_asg, ap_aug, ap_lm, ap_put, ap_oif, ap_ret, ap_drop, ap_raise, ap_gN, ap_gT, ap_gsN, ap_gsC, ap_app, Res.bind_ok, Res.bind_exc, Res.of_some, exOut_ok, exOut_exc, wipeE, Option.bind_some, List.length_cons, List.length_nil, List.getElem?_cons_zero, List.getElem?_cons_succ, List.set_cons_zero, List.set_cons_succ, List.map_cons, List.map_nil, addD, subD, cmpI, negD, modD, ap_lenL, ap_lenT, intD, int1, int2, walkD, if_true, if_false, decide_eq_true_eq, Bool.false_eq_true, reduceIte, Nat.reduceAdd, Nat.reduceSub, List.replicate_succ, List.replicate_zero, List.cons_append, List.nil_append, List.length_map, hp, hn]
  rw [ix_nat (n := n) (d := .int ns[n]) (by simp [hl])]
  simp only [ap_var, ap_c, ap_m1, ap_m2, ap_m3, ap_part, ap_nopart, ap_if, ap_isN, ap_notN, ap_list, ap_tup, ap_nil, ap_cons, ap_cb, ap_m1m, ap_chain, ap_isi, ap_mB, ap_asB, ap_and, ap_or, ap_not, ap_yes, ap_call, ap_lc, ap_noX, ap_iseq, ap_iown, ap_seq, th_nx, th_rt, th_exc, ap_skip, ap_set, ap_asg, ap_aug, ap_lm, ap_put, ap_oif, ap_ret, ap_drop, ap_raise, ap_gN, ap_gT, ap_gsN, ap_gsC, ap_app, Res.bind_ok, Res.bind_exc, Res.of_some, exOut_ok, exOut_exc, wipeE, Option.bind_some, List.length_cons, List.length_nil, List.getElem?_cons_zero, List.getElem?_cons_succ, List.set_cons_zero, List.set_cons_succ, List.map_cons, List.map_nil, addD, subD, cmpI, negD, modD, ap_lenL, ap_lenT, intD, int1, int2, walkD, if_true, if_false, decide_eq_true_eq, Bool.false_eq_true, reduceIte, Nat.reduceAdd, Nat.reduceSub, List.replicate_succ, List.replicate_zero, List.cons_append, List.nil_append]
abbrev Ok16 (v : Int) : Prop := 0 ≤ v ∧ v < 65536
theorem numbers_ok (N : Nat) (hN : N ≤ 5000) (ns : List Int) (hl : ns.length ≤ 63) : ∃ xs : List Int, m__law_numbers [li ns, .int N] = .ok (li xs) ∧ xs.length = N ∧ ∀ v ∈ xs, Ok16 v := by
  have hcut : cut (ns.map PyData.int) none (some 63) = ns.map .int := cut_all _ 63 (by simpa using hl)
  let ab : D → D := fun d => match d with | .int i => .int (if i < 0 then -i else i) | d => d
  have habs : (ns.map PyData.int).map ab = (ns.map fun i => if i < 0 then -i else i).map .int := by simp [ab]
  suffices H : ∃ x, o__law_numbers [some (li ns), some (.int N), none, none, none, none, none, none] = x ∧ ∃ xs : List Int, x = .rt (li xs) ∧ xs.length = N ∧ ∀ v ∈ xs, Ok16 v by
    obtain ⟨x, h0, xs, h1, h2⟩ := H
    exact ⟨xs, run_rt (h0.trans h1), h2⟩
  unfold o__law_numbers
  -- rest
  let as := ns.map fun i => if i < 0 then -i else i
  have ha : ∀ v ∈ as, 0 ≤ v := by
    intro v hv
    obtain ⟨i, _, rfl⟩ := List.mem_map.mp hv
    split <;> omega
  have hal : as.length = ns.length := by simp [as]
  obtain ⟨r0, hr0, hrl, hrz, e2⟩ : ∃ r0 : List Int, (∀ v ∈ r0, 0 ≤ v) ∧ 0 < r0.length ∧ r0.length ≤ 64 ∧ oIf (mB (m2 gtI (mCB lenD (aCons (mVar 0) aNil)) (mC (.int 0)))) (oSet 2 (m3 slLD (mVar 2) mNoPart (mPart (m1 negD (mC (.int 1)))))) oSkip [some (li ns), some (.int N), some (li (as ++ [0])), none, none, none, none, none]
      = .nx [some (li ns), some (.int N), some (li r0), none, none, none, none, none] := by
    by_cases hz : 0 < ns.length
    · refine ⟨as, ha, by omega, by omega, ?_⟩
      have hz' : (0 : Int) < (ns.length : Int) := by omega
      have hc : cut ((as ++ [0]).map PyData.int) none (some (-1)) = as.map .int := by
        simp [cut, HT.sIx]
        rw [show (-1 + ((as.length : Int) + 1)).toNat = (as.map PyData.int).length by simp; omega]
        exact List.take_left
      simp only [ap_var, ap_c, ap_m1, ap_m2, ap_m3, ap_part, ap_nopart, ap_if, ap_isN, ap_notN, ap_list, ap_tup, ap_nil, ap_cons, ap_cb, ap_m1m, ap_chain, ap_isi, ap_mB, ap_asB, ap_and, ap_or, ap_not, ap_yes, ap_call, ap_lc, ap_noX, ap_iseq, ap_iown, ap_seq, th_nx, th_rt, th_exc, ap_skip, ap_set, ap_asg, ap_aug, ap_lm, ap_put, ap_oif, ap_ret, ap_drop, ap_raise, ap_gN, ap_gT, ap_gsN, ap_gsC, ap_app, Res.bind_ok, Res.bind_exc, Res.of_some, exOut_ok, exOut_exc, wipeE, Option.bind_some, List.length_cons, List.length_nil, List.getElem?_cons_zero, List.getElem?_cons_succ, List.set_cons_zero, List.set_cons_succ, List.map_cons, List.map_nil, addD, subD, cmpI, negD, modD, ap_lenL, ap_lenT, intD, int1, int2, walkD, if_true, if_false, decide_eq_true_eq, Bool.false_eq_true, reduceIte, Nat.reduceAdd, Nat.reduceSub, List.replicate_succ, List.replicate_zero, List.cons_append, List.nil_append, List.length_map, hz', decide_true, slLD, hc]
    · refine ⟨as ++ [0], ?_, by simp, by simp; omega, ?_⟩
      · intro v hv
        rcases List.mem_append.mp hv with h | h
        · exact ha v h
        · simp at h; omega
      · have hz' : ¬ (0 : Int) < (ns.length : Int) := by omega
        simp only [ap_var, ap_c, ap_m1, ap_m2, ap_m3, ap_part, ap_nopart, ap_if, ap_isN, ap_notN, ap_list, ap_tup, ap_nil, ap_cons, ap_cb, ap_m1m, ap_chain, ap_isi, ap_mB, ap_asB, ap_and, ap_or, ap_not, ap_yes, ap_call, ap_lc, ap_noX, ap_iseq, ap_iown, ap_seq, th_nx, th_rt, th_exc, ap_skip, ap_set, ap_asg, ap_aug, ap_lm, ap_put, ap_oif, ap_ret, ap_drop, ap_raise, ap_gN, ap_gT, ap_gsN, ap_gsC, ap_app, Res.bind_ok, Res.bind_exc, Res.of_some, exOut_ok, exOut_exc, wipeE, Option.bind_some, List.length_cons, List.length_nil, List.getElem?_cons_zero, List.getElem?_cons_succ, List.set_cons_zero, List.set_cons_succ, List.map_cons, List.map_nil, addD, subD, cmpI, negD, modD, ap_lenL, ap_lenT, intD, int1, int2, walkD, if_true, if_false, decide_eq_true_eq, Bool.false_eq_true, reduceIte, Nat.reduceAdd, Nat.reduceSub, List.replicate_succ, List.replicate_zero, List.cons_append, List.nil_append, List.length_map, hz', decide_false]
  refine seq_ex (e := [some (li ns), some (.int N), some (li (as ++ [0])), none, none, none, none, none]) ?_ (seq_ex e2 ?_)
  · simp only [ap_var, ap_c, ap_m1, ap_m2, ap_m3, ap_part, ap_nopart, ap_if, ap_isN, ap_notN, ap_list, ap_tup, ap_nil, ap_cons, ap_cb, ap_m1m, ap_chain, ap_isi, ap_mB, ap_asB, ap_and, ap_or, ap_not, ap_yes, ap_call, ap_lc, ap_noX, ap_iseq, ap_iown, ap_seq, th_nx, th_rt, th_exc, ap_skip, ap_set, ap_asg, ap_aug, ap_lm, ap_put, ap_oif, ap_ret, ap_drop, ap_raise, ap_gN, ap_gT, ap_gsN, ap_gsC, ap_app, Res.bind_ok, Res.bind_exc, Res.of_some, exOut_ok, exOut_exc, wipeE, Option.bind_some, List.length_cons, List.length_nil, List.getElem?_cons_zero, List.getElem?_cons_succ, List.set_cons_zero, List.set_cons_succ, List.map_cons, List.map_nil, addD, subD, cmpI, negD, modD, ap_lenL, ap_lenT, intD, int1, int2, walkD, if_true, if_false, decide_eq_true_eq, Bool.false_eq_true, reduceIte, Nat.reduceAdd, Nat.reduceSub, List.replicate_succ, List.replicate_zero, List.cons_append, List.nil_append, slD, hcut]
    rw [lc_all ab (by
      intro d hd
      obtain ⟨i, _, rfl⟩ := List.mem_map.mp hd
      simp only [ap_var, ap_c, ap_m1, ap_m2, ap_m3, ap_part, ap_nopart, ap_if, ap_isN, ap_notN, ap_list, ap_tup, ap_nil, ap_cons, ap_cb, ap_m1m, ap_chain, ap_isi, ap_mB, ap_asB, ap_and, ap_or, ap_not, ap_yes, ap_call, ap_lc, ap_noX, ap_iseq, ap_iown, ap_seq, th_nx, th_rt, th_exc, ap_skip, ap_set, ap_asg, ap_aug, ap_lm, ap_put, ap_oif, ap_ret, ap_drop, ap_raise, ap_gN, ap_gT, ap_gsN, ap_gsC, ap_app, Res.bind_ok, Res.bind_exc, Res.of_some, exOut_ok, exOut_exc, wipeE, Option.bind_some, List.length_cons, List.length_nil, List.getElem?_cons_zero, List.getElem?_cons_succ, List.set_cons_zero, List.set_cons_succ, List.map_cons, List.map_nil, addD, subD, cmpI, negD, modD, ap_lenL, ap_lenT, intD, int1, int2, walkD, if_true, if_false, decide_eq_true_eq, Bool.false_eq_true, reduceIte, Nat.reduceAdd, Nat.reduceSub, List.replicate_succ, List.replicate_zero, List.cons_append, List.nil_append]
      rfl)]
    simp only [ap_var, ap_c, ap_m1, ap_m2, ap_m3, ap_part, ap_nopart, ap_if, ap_isN, ap_notN, ap_list, ap_tup, ap_nil, ap_cons, ap_cb, ap_m1m, ap_chain, ap_isi, ap_mB, ap_asB, ap_and, ap_or, ap_not, ap_yes, ap_call, ap_lc, ap_noX, ap_iseq, ap_iown, ap_seq, th_nx, th_rt, th_exc, ap_skip, ap_set, ap_asg, ap_aug, ap_lm, ap_put, ap_oif, ap_ret, ap_drop, ap_raise, ap_gN, ap_gT, ap_gsN, ap_gsC, ap_app, Res.bind_ok, Res.bind_exc, Res.of_some, exOut_ok, exOut_exc, wipeE, Option.bind_some, List.length_cons, List.length_nil, List.getElem?_cons_zero, List.getElem?_cons_succ, List.set_cons_zero, List.set_cons_succ, List.map_cons, List.map_nil, addD, subD, cmpI, negD, modD, ap_lenL, ap_lenT, intD, int1, int2, walkD, if_true, if_false, decide_eq_true_eq, Bool.false_eq_true, reduceIte, Nat.reduceAdd, Nat.reduceSub, List.replicate_succ, List.replicate_zero, List.cons_append, List.nil_append, habs, List.length_map, sz_ge (show 1 ≤ 16777216 by omega), sz_ge (show ns.length ≤ 16777216 by omega), catD, sz_ge (show ns.length + 1 ≤ 16777216 by omega)]
    simp [as, li]
  -- mixed
  let mx : D → D := fun d => match d with | .int i => .int ((i * 48271 + 11) % 2147483647) | d => d
  let m0 := r0.map fun i => (i * 48271 + 11) % 2147483647
  have hmx : (r0.map PyData.int).map mx = m0.map .int := by simp [mx, m0]
  have hm0 : ∀ v ∈ m0, 0 ≤ v := by
    intro v hv
    obtain ⟨i, _, rfl⟩ := List.mem_map.mp hv
    omega
  have hml : m0.length = r0.length := by simp [m0]
  have cm : ∀ (i j : Int), -18446744073709551616 < j → j < 18446744073709551616 → CMul i j := fun i j h1 h2 => .inr ⟨h1, h2⟩
  have cm' : ∀ (i j : Int), -18446744073709551616 < i → i < 18446744073709551616 → CMul i j := fun i j h1 h2 => .inl ⟨h1, h2⟩
  have k1 : ∀ i, CMul i 48271 := fun i => cm _ _ (by omega) (by omega)
  have k2 : ∀ i, CMul i 16807 := fun i => cm _ _ (by omega) (by omega)
  have k3 : ∀ i, CMul 7919 i := fun i => cm' _ _ (by omega) (by omega)
  have k4 : CPow 10 18 := by unfold CPow; decide
  have k5 : ∀ i, CDiv i 65536 := fun i => by unfold CDiv; omega
  have k6 : ∀ i, CDiv i 5 := fun i => by unfold CDiv; omega
  have k7 : (0 : Int) < 2147483647 := by decide
  have k8 : (0 : Int) < 65536 := by decide
  refine seq_ex (e := [some (li ns), some (.int N), some (li r0), some (li m0), none, none, none, none]) ?_ ?_
  · simp only [ap_var, ap_c, ap_m1, ap_m2, ap_m3, ap_part, ap_nopart, ap_if, ap_isN, ap_notN, ap_list, ap_tup, ap_nil, ap_cons, ap_cb, ap_m1m, ap_chain, ap_isi, ap_mB, ap_asB, ap_and, ap_or, ap_not, ap_yes, ap_call, ap_lc, ap_noX, ap_iseq, ap_iown, ap_seq, th_nx, th_rt, th_exc, ap_skip, ap_set, ap_asg, ap_aug, ap_lm, ap_put, ap_oif, ap_ret, ap_drop, ap_raise, ap_gN, ap_gT, ap_gsN, ap_gsC, ap_app, Res.bind_ok, Res.bind_exc, Res.of_some, exOut_ok, exOut_exc, wipeE, Option.bind_some, List.length_cons, List.length_nil, List.getElem?_cons_zero, List.getElem?_cons_succ, List.set_cons_zero, List.set_cons_succ, List.map_cons, List.map_nil, addD, subD, cmpI, negD, modD, ap_lenL, ap_lenT, intD, int1, int2, walkD, if_true, if_false, decide_eq_true_eq, Bool.false_eq_true, reduceIte, Nat.reduceAdd, Nat.reduceSub, List.replicate_succ, List.replicate_zero, List.cons_append, List.nil_append]
    rw [lc_all mx (by
      intro d hd
      obtain ⟨i, _, rfl⟩ := List.mem_map.mp hd
      simp only [ap_var, ap_c, ap_m1, ap_m2, ap_m3, ap_part, ap_nopart, ap_if, ap_isN, ap_notN, ap_list, ap_tup, ap_nil, ap_cons, ap_cb, ap_m1m, ap_chain, ap_isi, ap_mB, ap_asB, ap_and, ap_or, ap_not, ap_yes, ap_call, ap_lc, ap_noX, ap_iseq, ap_iown, ap_seq, th_nx, th_rt, th_exc, ap_skip, ap_set, ap_asg, ap_aug, ap_lm, ap_put, ap_oif, ap_ret, ap_drop, ap_raise, ap_gN, ap_gT, ap_gsN, ap_gsC, ap_app, Res.bind_ok, Res.bind_exc, Res.of_some, exOut_ok, exOut_exc, wipeE, Option.bind_some, List.length_cons, List.length_nil, List.getElem?_cons_zero, List.getElem?_cons_succ, List.set_cons_zero, List.set_cons_succ, List.map_cons, List.map_nil, addD, subD, cmpI, negD, modD, ap_lenL, ap_lenT, intD, int1, int2, walkD, if_true, if_false, decide_eq_true_eq, Bool.false_eq_true, reduceIte, Nat.reduceAdd, Nat.reduceSub, List.replicate_succ, List.replicate_zero, List.cons_append, List.nil_append, mulG, k1, k7]
      rfl)]
    simp only [ap_var, ap_c, ap_m1, ap_m2, ap_m3, ap_part, ap_nopart, ap_if, ap_isN, ap_notN, ap_list, ap_tup, ap_nil, ap_cons, ap_cb, ap_m1m, ap_chain, ap_isi, ap_mB, ap_asB, ap_and, ap_or, ap_not, ap_yes, ap_call, ap_lc, ap_noX, ap_iseq, ap_iown, ap_seq, th_nx, th_rt, th_exc, ap_skip, ap_set, ap_asg, ap_aug, ap_lm, ap_put, ap_oif, ap_ret, ap_drop, ap_raise, ap_gN, ap_gT, ap_gsN, ap_gsC, ap_app, Res.bind_ok, Res.bind_exc, Res.of_some, exOut_ok, exOut_exc, wipeE, Option.bind_some, List.length_cons, List.length_nil, List.getElem?_cons_zero, List.getElem?_cons_succ, List.set_cons_zero, List.set_cons_succ, List.map_cons, List.map_nil, addD, subD, cmpI, negD, modD, ap_lenL, ap_lenT, intD, int1, int2, walkD, if_true, if_false, decide_eq_true_eq, Bool.false_eq_true, reduceIte, Nat.reduceAdd, Nat.reduceSub, List.replicate_succ, List.replicate_zero, List.cons_append, List.nil_append, hmx, List.length_map, hml, sz_ge (show r0.length ≤ 16777216 by omega)]
  refine seq_ex (e := [some (li ns), some (.int N), some (li r0), some (li m0), some (li []), none, none, none]) ?_ ?_
  · simp only [ap_var, ap_c, ap_m1, ap_m2, ap_m3, ap_part, ap_nopart, ap_if, ap_isN, ap_notN, ap_list, ap_tup, ap_nil, ap_cons, ap_cb, ap_m1m, ap_chain, ap_isi, ap_mB, ap_asB, ap_and, ap_or, ap_not, ap_yes, ap_call, ap_lc, ap_noX, ap_iseq, ap_iown, ap_seq, th_nx, th_rt, th_exc, ap_skip, ap_set, ap_asg, ap_aug, ap_lm, ap_put, ap_oif, ap_ret, ap_drop, ap_raise, ap_gN, ap_gT, ap_gsN, ap_gsC, ap_app, Res.bind_ok, Res.bind_exc, Res.of_some, exOut_ok, exOut_exc, wipeE, Option.bind_some, List.length_cons, List.length_nil, List.getElem?_cons_zero, List.getElem?_cons_succ, List.set_cons_zero, List.set_cons_succ, List.map_cons, List.map_nil, addD, subD, cmpI, negD, modD, ap_lenL, ap_lenT, intD, int1, int2, walkD, if_true, if_false, decide_eq_true_eq, Bool.false_eq_true, reduceIte, Nat.reduceAdd, Nat.reduceSub, List.replicate_succ, List.replicate_zero, List.cons_append, List.nil_append, sz_ge (show 0 ≤ 16777216 by omega)]
    rfl
  refine seq_for (fun n e => ∃ (r mz nu : List Int) (j1 j2 j3 : Option D), e = [some (li ns), some (.int N), some (li r), some (li mz), some (li nu), j1, j2, j3] ∧ r.length = r0.length ∧ mz.length = r0.length ∧ (∀ v ∈ r, 0 ≤ v) ∧ (∀ v ∈ mz, 0 ≤ v) ∧ (∀ v ∈ nu, Ok16 v) ∧ nu.length = n) (rng 0 N) ?_ ⟨r0, m0, [], none, none, none, rfl, rfl, hml, hr0, hm0, (fun _ h => nomatch h), rfl⟩ ?_ ?_
  · refine irange_ok (l := [.int (N : Nat)]) ?_ (range1 (by omega))
    simp only [ap_var, ap_c, ap_m1, ap_m2, ap_m3, ap_part, ap_nopart, ap_if, ap_isN, ap_notN, ap_list, ap_tup, ap_nil, ap_cons, ap_cb, ap_m1m, ap_chain, ap_isi, ap_mB, ap_asB, ap_and, ap_or, ap_not, ap_yes, ap_call, ap_lc, ap_noX, ap_iseq, ap_iown, ap_seq, th_nx, th_rt, th_exc, ap_skip, ap_set, ap_asg, ap_aug, ap_lm, ap_put, ap_oif, ap_ret, ap_drop, ap_raise, ap_gN, ap_gT, ap_gsN, ap_gsC, ap_app, Res.bind_ok, Res.bind_exc, Res.of_some, exOut_ok, exOut_exc, wipeE, Option.bind_some, List.length_cons, List.length_nil, List.getElem?_cons_zero, List.getElem?_cons_succ, List.set_cons_zero, List.set_cons_succ, List.map_cons, List.map_nil, addD, subD, cmpI, negD, modD, ap_lenL, ap_lenT, intD, int1, int2, walkD, if_true, if_false, decide_eq_true_eq, Bool.false_eq_true, reduceIte, Nat.reduceAdd, Nat.reduceSub, List.replicate_succ, List.replicate_zero, List.cons_append, List.nil_append]
  · rintro n d e hd ⟨r, mz, nu, j1, j2, j3, rfl, q1, q2, q3, q4, q5, q6⟩
    rw [rng_get] at hd
    split at hd <;> cases hd
    rename_i hn
    obtain ⟨a, ea, hla⟩ := mod_nat (0 + (n : Int)) hrl
    have ga : r[a]? = some r[a] := List.getElem?_eq_getElem (by omega)
    have gm : mz[a]? = some mz[a] := List.getElem?_eq_getElem (by omega)
    have ra := q3 r[a] (List.getElem_mem (by omega))
    have i1 : ixD (li r) (.int (a : Int)) = some (.int r[a]) := ix_li rfl ga
    have i2 : ixD (li mz) (.int (a : Int)) = some (.int mz[a]) := ix_li rfl gm
    have x1 : ixN r0.length (a : Int) = some a := by simp [ixN, hla]
    have hp : (0 : Int) < (r0.length : Int) := by omega
    by_cases hb : (1000000000000000000 : Int) ≤ r[a]
    · refine ⟨_, [some (li ns), some (.int N), some (li (r.set a (r[a] / 65536))), some (li mz), some (li (nu ++ [r[a] % 65536])), some (.int (0 + (n : Int))), some (.int a), j3], rfl, ?_, r.set a (r[a] / 65536), mz, nu ++ [r[a] % 65536], _, _, _, rfl, by simpa using q1, q2, ?_, q4, ?_, by simp [q6]⟩
      · simp only [ap_var, ap_c, ap_m1, ap_m2, ap_m3, ap_part, ap_nopart, ap_if, ap_isN, ap_notN, ap_list, ap_tup, ap_nil, ap_cons, ap_cb, ap_m1m, ap_chain, ap_isi, ap_mB, ap_asB, ap_and, ap_or, ap_not, ap_yes, ap_call, ap_lc, ap_noX, ap_iseq, ap_iown, ap_seq, th_nx, th_rt, th_exc, ap_skip, ap_set, ap_asg, ap_aug, ap_lm, ap_put, ap_oif, ap_ret, ap_drop, ap_raise, ap_gN, ap_gT, ap_gsN, ap_gsC, ap_app, Res.bind_ok, Res.bind_exc, Res.of_some, exOut_ok, exOut_exc, wipeE, Option.bind_some, List.length_cons, List.length_nil, List.getElem?_cons_zero, List.getElem?_cons_succ, List.set_cons_zero, List.set_cons_succ, List.map_cons, List.map_nil, addD, subD, cmpI, negD, modD, ap_lenL, ap_lenT, intD, int1, int2, walkD, if_true, if_false, decide_eq_true_eq, Bool.false_eq_true, reduceIte, Nat.reduceAdd, Nat.reduceSub, List.replicate_succ, List.replicate_zero, List.cons_append, List.nil_append, List.length_map, q1, hp, ea, i1, powD, k4, show ((10 : Int) ^ (18 : Int).toNat) = 1000000000000000000 by decide, hb, decide_true, k8, fdivD, k5, x1, sz_gt (show nu.length < 16777216 by omega)]
        simp [li]
      · intro v hv
        rcases List.mem_or_eq_of_mem_set hv with h | rfl
        · exact q3 v h
        · omega
      · intro v hv
        rcases List.mem_append.mp hv with h | h
        · exact q5 v h
        · simp at h; subst h; unfold Ok16; omega
    · let w := (mz[a] * 16807 + 12345 + 7919 * (0 + (n : Int))) % 2147483647
      have w0 : 0 ≤ w := Int.emod_nonneg _ (by decide)
      have gw : (mz.set a w)[a]? = some w := by rw [List.getElem?_set_self (by omega)]
      have i3 : ixD (li (mz.set a w)) (.int (a : Int)) = some (.int w) := ix_li rfl gw
      refine ⟨_, [some (li ns), some (.int N), some (li r), some (li (mz.set a w)), some (li (nu ++ [(r[a] + w / 5) % 65536])), some (.int (0 + (n : Int))), some (.int a), j3], rfl, ?_, r, mz.set a w, nu ++ [(r[a] + w / 5) % 65536], _, _, _, rfl, q1, by simpa using q2, q3, ?_, ?_, by simp [q6]⟩
      · have e3 : (List.map PyData.int mz).set a (.int ((mz[a] * 16807 + 12345 + 7919 * (0 + (n : Int))) % 2147483647)) = (mz.set a w).map .int := by simp [w]
        have i3' : ixD (.list ((mz.set a w).map .int)) (.int (a : Int)) = some (.int w) := i3
        simp only [ap_var, ap_c, ap_m1, ap_m2, ap_m3, ap_part, ap_nopart, ap_if, ap_isN, ap_notN, ap_list, ap_tup, ap_nil, ap_cons, ap_cb, ap_m1m, ap_chain, ap_isi, ap_mB, ap_asB, ap_and, ap_or, ap_not, ap_yes, ap_call, ap_lc, ap_noX, ap_iseq, ap_iown, ap_seq, th_nx, th_rt, th_exc, ap_skip, ap_set, ap_asg, ap_aug, ap_lm, ap_put, ap_oif, ap_ret, ap_drop, ap_raise, ap_gN, ap_gT, ap_gsN, ap_gsC, ap_app, Res.bind_ok, Res.bind_exc, Res.of_some, exOut_ok, exOut_exc, wipeE, Option.bind_some, List.length_cons, List.length_nil, List.getElem?_cons_zero, List.getElem?_cons_succ, List.set_cons_zero, List.set_cons_succ, List.map_cons, List.map_nil, addD, subD, cmpI, negD, modD, ap_lenL, ap_lenT, intD, int1, int2, walkD, if_true, if_false, decide_eq_true_eq, Bool.false_eq_true, reduceIte, Nat.reduceAdd, Nat.reduceSub, List.replicate_succ, List.replicate_zero, List.cons_append, List.nil_append, List.length_map, q1, q2, hp, ea, i1, i2, powD, k4, show ((10 : Int) ^ (18 : Int).toNat) = 1000000000000000000 by decide, hb, decide_false, k8, k7, fdivD, k6, x1, mulG, k2, k3, sz_gt (show nu.length < 16777216 by omega), e3, i3']
        simp [li]
      · intro v hv
        rcases List.mem_or_eq_of_mem_set hv with h | rfl
        · exact q4 v h
        · exact w0
      · intro v hv
        rcases List.mem_append.mp hv with h | h
        · exact q5 v h
        · simp at h; subst h; unfold Ok16; omega
  · rintro e ⟨r, mz, nu, j1, j2, j3, rfl, q1, q2, q3, q4, q5, q6⟩
    refine ⟨_, ?_, nu, rfl, by simpa [rng] using q6, q5⟩
    simp only [ap_var, ap_c, ap_m1, ap_m2, ap_m3, ap_part, ap_nopart, ap_if, ap_isN, ap_notN, ap_list, ap_tup, ap_nil, ap_cons, ap_cb, ap_m1m, ap_chain, ap_isi, ap_mB, ap_asB, ap_and, ap_or, ap_not, ap_yes, ap_call, ap_lc, ap_noX, ap_iseq, ap_iown, ap_seq, th_nx, th_rt, th_exc, ap_skip, ap_set, ap_asg, ap_aug, ap_lm, ap_put, ap_oif, ap_ret, ap_drop, ap_raise, ap_gN, ap_gT, ap_gsN, ap_gsC, ap_app, Res.bind_ok, Res.bind_exc, Res.of_some, exOut_ok, exOut_exc, wipeE, Option.bind_some, List.length_cons, List.length_nil, List.getElem?_cons_zero, List.getElem?_cons_succ, List.set_cons_zero, List.set_cons_succ, List.map_cons, List.map_nil, addD, subD, cmpI, negD, modD, ap_lenL, ap_lenT, intD, int1, int2, walkD, if_true, if_false, decide_eq_true_eq, Bool.false_eq_true, reduceIte, Nat.reduceAdd, Nat.reduceSub, List.replicate_succ, List.replicate_zero, List.cons_append, List.nil_append]
end K67

namespace DL
open PySem PySem.Spec L2
def pw (T : List Nat) : Nat → List Nat
  | 0 => T
  | m + 1 => pw T m ++ pw T m
theorem pw_len (T : List Nat) : ∀ m, (pw T m).length = T.length * 2 ^ m
  | 0 => by simp [pw]
  | m + 1 => by rw [pw, List.length_append, pw_len T m, Nat.pow_succ, ← Nat.mul_assoc]; omega
def Cy (T X : List Nat) : Prop := ∀ k, k < X.length → X[k]? = T[k % T.length]?
theorem cy_app {T X Y : List Nat} (h1 : Cy T X) (h2 : Cy T Y) {N : Nat} (hN : X.length = T.length * N) : Cy T (X ++ Y) := by
  intro k hk
  by_cases h : k < X.length
  · rw [List.getElem?_append_left h]; exact h1 k h
  · rw [List.getElem?_append_right (by omega), h2 _ (by rw [List.length_append] at hk; omega), hN]
    congr 1
    have e : k = (k - T.length * N) + T.length * N := by omega
    generalize k - T.length * N = z at e
    rw [e, Nat.add_mul_mod_self_left]
theorem cy_self (T : List Nat) : Cy T T := fun k hk => by rw [Nat.mod_eq_of_lt hk]
theorem pw_cy (T : List Nat) : ∀ m, Cy T (pw T m)
  | 0 => cy_self T
  | m + 1 => cy_app (pw_cy T m) (pw_cy T m) (pw_len T m)
def rp (T : List Nat) (n : Nat) : List Nat := (List.replicate n T).flatten
theorem rp_succ (T : List Nat) (n : Nat) : rp T (n + 1) = T ++ rp T n := by simp [rp, List.replicate_succ]
theorem rp_len (T : List Nat) : ∀ n, (rp T n).length = n * T.length
  | 0 => by simp [rp]
  | n + 1 => by rw [rp_succ, List.length_append, rp_len T n, Nat.add_mul]; omega
theorem rp_cy (T : List Nat) : ∀ n, Cy T (rp T n)
  | 0 => fun k hk => by simp [rp] at hk
  | n + 1 => by rw [rp_succ]; exact cy_app (N := 1) (cy_self T) (rp_cy T n) (by omega)
def cyw (T : List Nat) (i n : Nat) : List Nat := (List.range n).map fun j => T.getD ((i + j) % T.length) 0
theorem cyw_len (T : List Nat) (i n : Nat) : (cyw T i n).length = n := by simp [cyw]
theorem win {T X : List Nat} (hL : 0 < T.length) (hX : Cy T X) {i n : Nat} (h : i + n ≤ X.length) : (X.drop i).take n = cyw T i n := by
  apply List.ext_getElem?
  intro j
  by_cases hj : j < n
  · rw [List.getElem?_take_of_lt hj, List.getElem?_drop, hX _ (by omega)]
    unfold cyw
    rw [List.getElem?_map, List.getElem?_range hj]
    have : (i + j) % T.length < T.length := Nat.mod_lt _ hL
    simp [List.getD_eq_getElem?_getD, List.getElem?_eq_getElem this]
  · rw [List.getElem?_eq_none (by rw [List.length_take]; omega), List.getElem?_eq_none (by rw [cyw_len]; omega)]
theorem cyw_mod {T : List Nat} {i j : Nat} (h : i % T.length = j % T.length) (n : Nat) : cyw T i n = cyw T j n := by
  unfold cyw
  refine List.map_congr_left fun k _ => ?_
  rw [Nat.add_mod i k, h, ← Nat.add_mod]
def cnt (q : Nat → Bool) (n : Nat) : Nat := ((List.range n).filter q).length
theorem cnt_add (q : Nat → Bool) (a b : Nat) : cnt q (a + b) = cnt q a + cnt (fun k => q (a + k)) b := by
  unfold cnt
  rw [List.range_add, List.filter_append, List.length_append, List.filter_map, List.length_map]
  rfl
theorem cnt_congr {q r : Nat → Bool} {n : Nat} (h : ∀ k, k < n → q k = r k) : cnt q n = cnt r n := by
  unfold cnt
  congr 1
  exact List.filter_congr fun k hk => h k (List.mem_range.mp hk)
theorem cnt_per {q : Nat → Bool} {L : Nat} (h : ∀ i, q (L + i) = q i) : ∀ N, cnt q (N * L) = N * cnt q L
  | 0 => by simp [cnt]
  | N + 1 => by
    rw [Nat.add_mul, Nat.one_mul, Nat.add_comm, cnt_add, cnt_congr (r := q) (fun k _ => h k), cnt_per h N, Nat.add_mul]
    omega
theorem pw_count {T : List Nat} (hL : 0 < T.length) {m n : Nat} (hm : 4 ≤ m) (hn : 0 < n) (hn2 : n ≤ 12) {w : List Nat} (hw : w.length = n) :
    KM.ct w 0 (pw T m) + cnt (fun k => decide (((rp T 26).drop (13 * T.length - n + 1 + k)).take n = w)) (n - 1) = cnt (fun k => decide (((rp T 13).drop k).take n = w)) T.length * 2 ^ m := by
  have hp : 16 ≤ 2 ^ m := by
    have := Nat.pow_le_pow_right (n := 2) (by omega) hm
    omega
  generalize hN : 2 ^ m = N at hp
  have hS : (pw T m).length = N * T.length := by rw [pw_len, hN, Nat.mul_comm]
  have hbig : 16 * T.length ≤ N * T.length := Nat.mul_le_mul_right _ hp
  let q : Nat → Bool := fun i => decide (cyw T i n = w)
  have e1 : cnt (fun k => decide (((rp T 13).drop k).take n = w)) T.length = cnt q T.length := cnt_congr fun k hk => by
    show decide _ = decide (cyw T k n = w)
    rw [win hL (rp_cy T 13) (by rw [rp_len]; omega)]
  have e2 : cnt (fun k => decide (((rp T 26).drop (13 * T.length - n + 1 + k)).take n = w)) (n - 1) = cnt (fun k => q (N * T.length + 1 - n + k)) (n - 1) := cnt_congr fun k hk => by
    show decide _ = decide (cyw T (N * T.length + 1 - n + k) n = w)
    rw [win hL (rp_cy T 26) (by rw [rp_len]; omega)]
    have : (13 * T.length - n + 1 + k) % T.length = (N * T.length + 1 - n + k) % T.length := by
      have hb : 13 * T.length + (N - 13) * T.length = N * T.length := by rw [← Nat.add_mul]; congr 1; omega
      rw [show N * T.length + 1 - n + k = (13 * T.length - n + 1 + k) + (N - 13) * T.length by omega, Nat.add_mul_mod_self_right]
    rw [cyw_mod this]
  have e3 : KM.ct w 0 (pw T m) = cnt q (N * T.length + 1 - n) := by
    rw [← KM.occ_ct (by omega)]
    unfold KM.occ
    rw [hS, hw]
    refine cnt_congr fun k hk => ?_
    show decide _ = decide (cyw T k n = w)
    rw [win hL (pw_cy T m) (by rw [hS]; omega)]
  rw [e1, e2, e3, ← cnt_add, show N * T.length + 1 - n + (n - 1) = N * T.length by omega, cnt_per (fun i => ?_) N, Nat.mul_comm]
  show decide _ = decide _
  rw [cyw_mod (i := T.length + i) (j := i) (by rw [Nat.add_mod_left])]
theorem mod_nat (a : Int) {n : Nat} (h : 0 < n) : ∃ k : Nat, a % (n : Int) = k ∧ k < n := by
  have h0 := Int.emod_nonneg a (show (n : Int) ≠ 0 by omega)
  have h1 := Int.emod_lt_of_pos a (show (0 : Int) < (n : Int) by omega)
  obtain ⟨k, hn⟩ := Int.eq_ofNat_of_zero_le h0
  exact ⟨k, hn, by omega⟩
theorem mod_in {a b : Int} (h : 0 < b) : 0 ≤ a % b ∧ a % b < b := ⟨Int.emod_nonneg a (by omega), Int.emod_lt_of_pos a h⟩
theorem int_in {a : Int} {n : Nat} (h : 0 ≤ a ∧ a < n) : ∃ k : Nat, a = k ∧ k < n := by
  obtain ⟨k, hk⟩ := Int.eq_ofNat_of_zero_le h.1
  exact ⟨k, hk, by omega⟩
theorem eqi {i j : Int} {b : Bool} (h : decide (i = j) = b) : eqD (.int i) (.int j) = some (.bool b) := by subst h; rfl
theorem nei {i j : Int} {b : Bool} (h : decide (i = j) = b) : neD (.int i) (.int j) = some (.bool !b) := by subst h; rfl
def slc (t : List Nat) (a b : Nat) : List Nat := (t.take b).drop a
theorem slc_app {x y : List Nat} {a b : Nat} (h : a ≤ b) : slc (x ++ y) a b = slc x (min a x.length) (min b x.length) ++ slc y (a - x.length) (b - x.length) := by
  unfold slc
  rw [List.take_append, List.drop_append]
  have h1 : (x.take b).drop a = (x.take (min b x.length)).drop (min a x.length) := by
    by_cases hb : b ≤ x.length
    · rw [Nat.min_eq_left hb, Nat.min_eq_left (show a ≤ x.length by omega)]
    · have hb' : x.length ≤ b := by omega
      have e1 : x.take b = x := List.take_of_length_le hb'
      have e2 : x.take (min b x.length) = x := by rw [Nat.min_eq_right hb', List.take_length]
      rw [e1, e2]
      by_cases ha : a ≤ x.length
      · rw [Nat.min_eq_left ha]
      · rw [Nat.min_eq_right (show x.length ≤ a by omega), List.drop_of_length_le (show x.length ≤ a by omega), List.drop_of_length_le (Nat.le_refl _)]
  have h2 : (y.take (b - x.length)).drop (a - (x.take b).length) = (y.take (b - x.length)).drop (a - x.length) := by
    by_cases hb : b ≤ x.length
    · rw [show b - x.length = 0 by omega]; simp
    · rw [List.take_of_length_le (by omega)]
  rw [h1, h2]
theorem slc_len (t : List Nat) (a b : Nat) : (slc t a b).length ≤ b - a := by
  unfold slc
  rw [List.length_drop, List.length_take]
  omega
theorem ix0 {a : D} {l : List D} : ixD (.tuple (a :: l)) (.int 0) = some a := ix_tup (n := 0) rfl
theorem call_ok {mf : List D → Res D} {ms : Env' → Res (List D)} {env : Env'} {l : List D} {d : D} (h : ms env = .ok l) (h2 : mf l = .ok d) : mCall mf ms env = .ok d := by
  rw [ap_call, h]; exact h2
theorem set_ok {i : Nat} {m : Env' → Res D} {env : Env'} {d : D} (h : m env = .ok d) : oSet i m env = .nx (env.set i (some d)) := by
  rw [ap_set, h]; rfl
theorem mul2 (a : Nat) : mulG (.int 2) (.int (a : Int)) = some (.int ((2 * a : Nat) : Int)) := by
  have c2 : CMul 2 (a : Int) := .inl ⟨by decide, by decide⟩
  show (if CMul 2 (a : Int) then some (PyData.int (2 * (a : Int))) else none) = _
  rw [if_pos c2]
  congr 2
theorem mul16 (a : Nat) : mulG (.int 16) (.int (a : Int)) = some (.int ((16 * a : Nat) : Int)) := by
  have c2 : CMul 16 (a : Int) := .inl ⟨by decide, by decide⟩
  show (if CMul 16 (a : Int) then some (PyData.int (16 * (a : Int))) else none) = _
  rw [if_pos c2]
  congr 2
theorem s_a : (("a" : String) : Str) = txS [97] := by decide +kernel
theorem s_b : (("b" : String) : Str) = txS [98] := by decide +kernel
theorem s_ab : (("ab" : String) : Str) = txS [97, 98] := by decide +kernel
theorem addL {x y : List D} (h : x.length + y.length ≤ sizeLine) : addD (.list x) (.list y) = some (.list (x ++ y)) := if_pos h
theorem tx_app1 {s : List Sy} {x : Sy} {k : Nat} (h : k < s.length) : tx (s ++ [x]) k = tx s k := by
  unfold tx
  rw [List.getD_eq_getElem?_getD, List.getD_eq_getElem?_getD, txs_pre s [x] k h]
theorem tx_new {s : List Sy} {i j : Nat} (w : WF (s ++ [.P i j])) (hi : i < s.length) (hj : j < s.length) : tx (s ++ [.P i j]) s.length = tx s i ++ tx s j := by
  rw [tx_P w (i := i) (j := j) (by simp), tx_app1 hi, tx_app1 hj]
theorem lc_ok {mi : Env' → Res (List D)} {v : Nat} {m : Env' → Res D} {vs : List Nat} {env : Env'} {ds : List D} (g : D → D) (hi : mi env = .ok ds) (hz : ds.length ≤ 16777216)
    (h : ∀ d ∈ ds, m ((wipeE env vs).set v (some d)) = .ok (g d)) : mLc mi (gN v) bYes m vs env = .ok (.list (ds.map g)) := by
  rw [ap_lc, hi, Res.bind_ok, lc_all g h, ap_noX, Res.bind_ok, List.length_map, if_pos (sz_ge hz)]
def onI (lo : Int) (f : Nat → D) : D → D
  | .int i => f (i - lo).toNat
  | d => d
theorem rng_map (lo : Int) (n : Nat) (f : Nat → D) : (rng lo n).map (onI lo f) = (List.range n).map f := by
  unfold rng
  rw [List.map_map]
  refine List.map_congr_left fun k _ => ?_
  show f (lo + (k : Int) - lo).toNat = f k
  congr 1
  omega
theorem rng_mem {lo : Int} {n : Nat} {d : D} (h : d ∈ rng lo n) : ∃ k, k < n ∧ d = .int (lo + (k : Nat)) := by
  unfold rng at h
  obtain ⟨k, hk, rfl⟩ := List.mem_map.mp h
  exact ⟨k, List.mem_range.mp hk, rfl⟩
theorem rng_len (lo : Int) (n : Nat) : (rng lo n).length = n := by simp [rng]
theorem lc_rng {mi : Env' → Res (List D)} {v : Nat} {m : Env' → Res D} {vs : List Nat} {env : Env'} {lo : Int} {n : Nat} (f : Nat → D) (hi : mi env = .ok (rng lo n)) (hz : n ≤ 16777216)
    (h : ∀ k, k < n → m ((wipeE env vs).set v (some (.int (lo + (k : Nat))))) = .ok (f k)) : mLc mi (gN v) bYes m vs env = .ok (.list ((List.range n).map f)) := by
  rw [lc_ok (onI lo f) hi (by rw [rng_len]; exact hz) ?_, rng_map]
  intro d hd
  obtain ⟨k, hk, rfl⟩ := rng_mem hd
  rw [h k hk]
  show _ = Res.ok (f (lo + (k : Int) - lo).toNat)
  rw [show (lo + (k : Int) - lo).toNat = k by omega]
theorem irangeG_ok {env : Env'} {ms : Env' → Res (List D)} {i j : Int} {n : Nat} (h : ms env = .ok [.int i, .int j]) (hn : (j - i).toNat = n) : iRangeG ms env = .ok (rng i n) := by
  unfold iRangeG
  rw [h, Res.bind_ok, ← hn]
  rfl
theorem s_e : (("" : String) : Str) = txS [] := by decide +kernel
theorem strs_one : ∀ ls : List Nat, strsOf (ls.map fun c => PyData.str (txS [c])) = some (ls.map fun c => txS [c])
  | [] => rfl
  | c :: ls => by
    show (strsOf (ls.map fun c => PyData.str (txS [c]))).map _ = _
    rw [strs_one ls]
    rfl
theorem join_one : ∀ ls : List Nat, Str.join (txS []) (ls.map fun c => txS [c]) = txS ls
  | [] => rfl
  | [c] => rfl
  | c :: d :: ls => by
    show txS [c] ++ txS [] ++ Str.join (txS []) ((d :: ls).map fun c => txS [c]) = _
    rw [join_one (d :: ls), txS_append, txS_append]
    rfl
theorem sum_one : ∀ ls : List Nat, ((ls.map fun c => txS [c]).map (·.length)).sum = ls.length
  | [] => rfl
  | c :: ls => by
    rw [List.map_cons, List.map_cons, List.sum_cons, sum_one ls, txS_length, List.length_cons, List.length_cons]
    simp
    omega
theorem join_ok {ls : List Nat} (h : ls.length ≤ 1000000) : joinD (.str ("" : String)) [.list (ls.map fun c => .str (txS [c]))] = some (.str (txS ls)) := by
  rw [s_e]
  unfold joinD
  simp only [strs_one, Option.bind_some, sum_one, List.length_map, txS_length, List.length_nil, Nat.mul_zero, Nat.add_zero, join_one]
  rw [if_pos (by omega)]
theorem slc_range {X : List Nat} {i n : Nat} (h : i + n ≤ X.length) : (List.range n).map (fun k => X.getD (i + k) 0) = slc X i (i + n) := by
  unfold slc
  apply List.ext_getElem?
  intro j
  by_cases hj : j < n
  · rw [List.getElem?_map, List.getElem?_range hj, List.getElem?_drop, List.getElem?_take_of_lt (by omega)]
    simp [List.getD_eq_getElem?_getD, List.getElem?_eq_getElem (show i + j < X.length by omega)]
  · rw [List.getElem?_eq_none (by simp; omega), List.getElem?_eq_none (by simp; omega)]
theorem get_getD {X : List Nat} {i : Nat} (h : i < X.length) : X[i]? = some (X.getD i 0) := by
  rw [List.getD_eq_getElem?_getD, List.getElem?_eq_getElem h]; rfl
theorem ix_neg {ds : List D} {n : Nat} {d : D} {i : Int} (hi : i = -(n : Int) - 1) (hn : n < ds.length) (h : ds[ds.length - 1 - n]? = some d) : ixD (.list ds) (.int i) = some d := by
  have e : ixN ds.length i = some (ds.length - 1 - n) := by
    unfold ixN
    rw [if_neg (by omega), if_pos (by omega)]
    congr 1
    omega
  show L2.atI ds i = _
  unfold L2.atI
  rw [e]
  exact h
theorem str_eqv (x y : Str) : PyData.eqv (.str x) (.str y) = decide (x = y) := by
  rw [PyData.eqv]
  by_cases h : x = y <;> simp [h]
theorem int_eqv (x y : Int) : PyData.eqv (.int x) (.int y) = decide (x = y) := by
  rw [PyData.eqv]
  by_cases h : x = y <;> simp [h]
theorem sy_eqv (x y : Sy) : PyData.eqv x.d y.d = decide (x = y) := by
  have hlp : ¬ (("letter" : String) : Str) = (("pair" : String) : Str) := by decide +kernel
  have hpl : ¬ (("pair" : String) : Str) = (("letter" : String) : Str) := by decide +kernel
  cases x with
  | L c =>
    cases y with
    | L c' =>
      show PyData.eqv (.tuple [.str ("letter" : String), .str (txS [c])]) (.tuple [.str ("letter" : String), .str (txS [c'])]) = _
      rw [PyData.eqv, PyData.eqvAll, PyData.eqvAll, PyData.eqvAll, str_eqv, str_eqv]
      by_cases h : c = c'
      · subst h; simp
      · have h2 : ¬ txS [c] = txS [c'] := fun z => h (by have := txS_inj z; simpa using this)
        simp [h, h2]
    | P i j =>
      show PyData.eqv (.tuple [.str ("letter" : String), .str (txS [c])]) (.tuple [.str ("pair" : String), .int i, .int j]) = _
      rw [PyData.eqv, PyData.eqvAll, str_eqv, decide_eq_false hlp]
      simp
  | P i j =>
    cases y with
    | L c' =>
      show PyData.eqv (.tuple [.str ("pair" : String), .int i, .int j]) (.tuple [.str ("letter" : String), .str (txS [c'])]) = _
      rw [PyData.eqv, PyData.eqvAll, str_eqv, decide_eq_false hpl]
      simp
    | P i' j' =>
      show PyData.eqv (.tuple [.str ("pair" : String), .int i, .int j]) (.tuple [.str ("pair" : String), .int i', .int j']) = _
      rw [PyData.eqv, PyData.eqvAll, PyData.eqvAll, PyData.eqvAll, PyData.eqvAll, str_eqv, int_eqv, int_eqv]
      by_cases h : i = i'
      · subst h
        by_cases h' : j = j'
        · subst h'; simp
        · have : ¬ ((j : Int) = (j' : Int)) := by omega
          simp [h', this]
      · have : ¬ ((i : Int) = (i' : Int)) := by omega
        simp [h, this]
def Sml (s : List Sy) : Prop := ∀ x ∈ s, match x with | .L c => c < 128 | .P i j => i < 10000 ∧ j < 10000
theorem sm_sy {x : Sy} (h : match x with | .L c => c < 128 | .P i j => i < 10000 ∧ j < 10000) : Sm 1000 1 x.d := by
  have o1 : PyData.strOk (("letter" : String) : Str) = true := by decide +kernel
  have o2 : PyData.strOk (("pair" : String) : Str) = true := by decide +kernel
  have l1 : (("letter" : String) : Str).length = 6 := by decide +kernel
  have l2 : (("pair" : String) : Str).length = 4 := by decide +kernel
  cases x with
  | L c =>
    have := Sm.tuple (w := 64) (dp := 0) (ds := [.str ("letter" : String), .str (txS [c])]) (by
      intro d hd
      simp only [List.mem_cons, List.not_mem_nil, or_false] at hd
      rcases hd with rfl | rfl
      · exact (Sm.str o1).mono (by omega) (by omega)
      · exact (Sm.str (strOk_low (by intro c' hc'; simp at hc'; subst hc'; exact h))).mono (by rw [txS_length]; simp) (by omega))
    exact this.mono (by simp) (by omega)
  | P i j =>
    have := Sm.tuple (w := 64) (dp := 0) (ds := [.str ("pair" : String), .int i, .int j]) (by
      intro d hd
      simp only [List.mem_cons, List.not_mem_nil, or_false] at hd
      rcases hd with rfl | rfl | rfl
      · exact (Sm.str o2).mono (by omega) (by omega)
      · exact (Sm.int (n := i) (by omega)).mono (by omega) (by omega)
      · exact (Sm.int (n := j) (by omega)).mono (by omega) (by omega))
    exact this.mono (by simp) (by omega)
theorem sml_shaped {s : List Sy} (h : Sml s) : SeqAt.shaped (sy s) = true := by
  refine (Sm.list (w := 1000) (dp := 1) (ds := s.map Sy.d) ?_).shaped (by omega)
  intro d hd
  obtain ⟨x, hx, rfl⟩ := List.mem_map.mp hd
  exact sm_sy (h x hx)
theorem wf_sml {s : List Sy} (w : WF s) (hz : s.length < 10000) : Sml s := by
  intro x hx
  obtain ⟨k, hk⟩ := List.getElem?_of_mem hx
  cases x with
  | L c => exact w.let' c hx
  | P i j =>
    have := w.pair k i j hk
    have := lt_of_get hk
    show i < 10000 ∧ j < 10000
    omega
theorem pin {s : List Sy} (h : Sml s) {i j : Nat} (hi : i < 10000) (hj : j < 10000) : notInD (.tuple [.str ("pair" : String), .int i, .int j]) (sy s) = some (.bool (!decide (Sy.P i j ∈ s))) := by
  have e : inB (.tuple [.str ("pair" : String), .int i, .int j]) (sy s) = some ((s.map Sy.d).any fun z => PyData.eqv z (Sy.P i j).d) := by
    have h1 := (sm_sy (x := .P i j) ⟨hi, hj⟩).shaped (by omega)
    have h2 := sml_shaped h
    show (if (SeqAt.shaped (Sy.P i j).d && SeqAt.shaped (sy s)) = true then _ else _) = _
    rw [h1, h2]
    rfl
  have e2 : ((s.map Sy.d).any fun z => PyData.eqv z (Sy.P i j).d) = decide (Sy.P i j ∈ s) := by
    rw [List.any_map]
    by_cases hm : Sy.P i j ∈ s
    · rw [decide_eq_true hm, List.any_eq_true]
      exact ⟨_, hm, by simp [sy_eqv]⟩
    · rw [decide_eq_false hm, List.any_eq_false]
      intro x hx
      simp only [Function.comp_apply, sy_eqv, decide_eq_true_eq]
      intro e
      exact hm (e ▸ hx)
  unfold notInD
  rw [e, e2]
  rfl
theorem pindex {s : List Sy} (h : Sml s) {i j : Nat} (hm : Sy.P i j ∈ s) : ∃ k, s[k]? = some (Sy.P i j) ∧ indexD (sy s) [.tuple [.str ("pair" : String), .int i, .int j]] = some (.int (k : Nat)) := by
  have h1 := (sm_sy (x := .P i j) (h _ hm)).shaped (by omega)
  have h2 := sml_shaped h
  have e2 : ((s.map Sy.d).findIdx? fun z => PyData.eqv z (Sy.P i j).d) = s.findIdx? fun z => decide (z = Sy.P i j) := by
    rw [List.findIdx?_map]
    congr 1
    funext z
    exact sy_eqv z (Sy.P i j)
  cases hf : s.findIdx? fun z => decide (z = Sy.P i j) with
  | none =>
    rw [List.findIdx?_eq_none_iff] at hf
    have := hf _ hm
    simp at this
  | some k =>
    obtain ⟨hk, h3, _⟩ := List.findIdx?_eq_some_iff_getElem.mp hf
    refine ⟨k, ?_, ?_⟩
    · rw [List.getElem?_eq_getElem hk]
      have : s[k] = Sy.P i j := by simpa using h3
      rw [this]
    · show (if (SeqAt.shaped (sy s) && SeqAt.shaped (Sy.P i j).d) = true then Option.map (fun j => PyData.int j) (do let a ← (s.map Sy.d).findIdx? (fun z => PyData.eqv z (Sy.P i j).d); pure (a : Int)) else none) = _
      rw [h1, h2, e2, hf]
      rfl
theorem pput {s : List Sy} (wf : WF s) (hz : s.length < 9000) {i j : Nat} (hi : i < s.length) (hj : j < s.length) :
    ∃ (s' : List Sy) (b : Bool) (k : Nat), notInD (.tuple [.str ("pair" : String), .int i, .int j]) (sy s) = some (.bool b) ∧ (if b = true then s.map Sy.d ++ [.tuple [.str ("pair" : String), .int i, .int j]] else s.map Sy.d) = s'.map Sy.d ∧
      indexD (sy s') [.tuple [.str ("pair" : String), .int i, .int j]] = some (.int (k : Nat)) ∧ WF s' ∧ k < s'.length ∧ s.length ≤ s'.length ∧ s'.length ≤ s.length + 1 ∧ (∀ n, n < s.length → tx s' n = tx s n) ∧ tx s' k = tx s i ++ tx s j := by
  have hp := pin (wf_sml wf (by omega)) (i := i) (j := j) (by omega) (by omega)
  by_cases hm : Sy.P i j ∈ s
  · obtain ⟨k, h1, h2⟩ := pindex (wf_sml wf (by omega)) hm
    exact ⟨s, false, k, by rw [hp, decide_eq_true hm]; rfl, rfl, h2, wf, lt_of_get h1, Nat.le_refl _, Nat.le_succ _, fun _ _ => rfl, tx_P wf h1⟩
  · have wf' : WF (s ++ [.P i j]) := wf.snoc (x := .P i j) ⟨hi, hj⟩
    obtain ⟨k, h1, h2⟩ := pindex (wf_sml wf' (by simp; omega)) (i := i) (j := j) (by simp)
    refine ⟨s ++ [.P i j], true, k, by rw [hp, decide_eq_false hm]; rfl, ?_, h2, wf', lt_of_get h1, by simp, by simp, fun n hn => tx_app1 hn, ?_⟩
    · rw [if_pos rfl, List.map_append]
      rfl
    · rw [tx_P wf' h1, tx_app1 hi, tx_app1 hj]
theorem s_abc : (("abc" : String) : Str) = txS [97, 98, 99] := by decide +kernel
theorem s_c : (("c" : String) : Str) = txS [99] := by decide +kernel
theorem sidx {c : Nat} (h : c < 3) : sindexD (.str ("abc" : String)) [.str (txS [97 + c])] = some (.int (c : Nat)) := by
  have o : ∀ c < 3, Builtin.Str.occurrences (("abc" : String) : Str) (txS [97 + c]) 0 (("abc" : String) : Str).length 1 = [c] := by decide +kernel
  unfold sindexD
  simp only [o c h]
theorem ix_abc {c : Nat} (h : c < 3) : ixD (.str ("abc" : String)) (.int (c : Int)) = some (.str (txS [97 + c])) := by
  rw [s_abc]
  match c, h with
  | 0, _ => exact ix_str (n := 0) (sz_ge (by decide)) rfl
  | 1, _ => exact ix_str (n := 1) (sz_ge (by decide)) rfl
  | 2, _ => exact ix_str (n := 2) (sz_ge (by decide)) rfl
theorem mul_tx {T : List Nat} (hT : T.length ≤ 9) {n : Nat} (hn : n ≤ 26) : mulG (.str (txS T)) (.int (n : Int)) = some (.str (txS (rp T n))) := by
  have h1 : T.length * n ≤ 9 * 26 := Nat.mul_le_mul hT hn
  show (if 0 ≤ (n : Int) ∧ (txS T).length * ((n : Int)).toNat ≤ 1000000 ∧ (n : Int) ≤ 1000000 then some (PyData.str (repS (txS T) ((n : Int)).toNat)) else none) = _
  rw [txS_length, Int.toNat_natCast, if_pos ⟨by omega, by omega, by omega⟩]
  unfold repS
  rw [tx_list]
  rfl
theorem cut_both {α : Type} (xs : List α) {a b : Nat} (h : a ≤ b) : cut xs (some (a : Int)) (some (b : Int)) = (xs.drop a).take (b - a) := by
  have e : ¬ ((a : Int) < 0) := by omega
  have e' : ¬ ((b : Int) < 0) := by omega
  simp only [cut, HT.sIx, if_neg e, if_neg e', Int.toNat_natCast]
  by_cases ha : a ≤ xs.length
  · rw [Nat.min_eq_left ha]
    by_cases hb : b ≤ xs.length
    · rw [Nat.min_eq_left hb]
    · rw [Nat.min_eq_right (by omega), List.take_of_length_le (by simp), List.take_of_length_le (by simp; omega)]
  · rw [Nat.min_eq_right (show xs.length ≤ a by omega), List.drop_of_length_le (Nat.le_refl _), List.drop_of_length_le (by omega)]
    simp
theorem sl_both {t : List Nat} {a b : Nat} (h : t.length ≤ sizeLine) (hab : a ≤ b) : slD (.str (txS t)) (some (a : Int)) (some (b : Int)) = some (.str (txS ((t.drop a).take (b - a)))) := by
  have h' : (txS t).length ≤ sizeLine := by rw [txS_length]; exact h
  show (if (txS t).length ≤ sizeLine then some (PyData.str ⟨(cut (txS t).cps.toList (some (a : Int)) (some (b : Int))).toArray⟩) else none) = _
  rw [if_pos h', tx_list, cut_both _ hab]
  rfl
theorem eq_txt (x y : List Nat) : eqD (.str (txS x)) (.str (txS y)) = some (.bool (decide (x = y))) := by
  show some (PyData.bool (decide (txS x = txS y))) = _
  by_cases h : x = y
  · subst h; simp
  · have h2 : ¬ txS x = txS y := fun z => h (txS_inj z)
    rw [decide_eq_false h, decide_eq_false h2]
theorem mul_ok {i j : Int} (h : CMul i j) : mulG (.int i) (.int j) = some (.int (i * j)) := if_pos h
theorem m2_ok {f : D → D → Option D} {ma mb : Env' → Res D} {env : Env'} {x y z : D} (ha : ma env = .ok x) (hb : mb env = .ok y) (h : f x y = some z) : m2 f ma mb env = .ok z := by
  rw [ap_m2, ha, Res.bind_ok, hb, Res.bind_ok, h]; rfl
theorem ret_ok {m : Env' → Res D} {env : Env'} {d : D} (h : m env = .ok d) : oRet m env = .rt d := by
  rw [ap_ret, h]; rfl
theorem var_ok {i : Nat} {env : Env'} {d : D} (h : env[i]? = some (some d)) : mVar i env = .ok d := by
  rw [ap_var, h]
theorem m3_ok {g : D → Option Int → Option Int → Option D} {ma : Env' → Res D} {ml mh : Env' → Res (Option Int)} {env : Env'} {x z : D} {l h : Option Int} (ha : ma env = .ok x) (hl : ml env = .ok l) (hh : mh env = .ok h) (e : g x l h = some z) : m3 g ma ml mh env = .ok z := by
  rw [ap_m3, ha, Res.bind_ok, hl, Res.bind_ok, hh, Res.bind_ok, e]; rfl
theorem part_ok {m : Env' → Res D} {env : Env'} {i : Int} (h : m env = .ok (.int i)) : mPart m env = .ok (some i) := by
  rw [ap_part, h]; rfl
theorem b_ok {m : Env' → Res D} {env : Env'} {b : Bool} (h : m env = .ok (.bool b)) : mB m env = .ok b := by
  rw [ap_mB, h]; rfl
theorem not_ok {nb : Env' → Res Bool} {env : Env'} {b : Bool} (h : nb env = .ok b) : bNot nb env = .ok (!b) := by
  rw [ap_not, h]; rfl
theorem or_f {nb nc : Env' → Res Bool} {env : Env'} {b : Bool} (h : nb env = .ok false) (h2 : nc env = .ok b) : bOr nb nc env = .ok b := by
  rw [ap_or, h, Res.bind_ok, if_neg (by decide), h2]
theorem oif_f {nc : Env' → Res Bool} {o1 o2 : Env' → Out} {env : Env'} (h : nc env = .ok false) : oIf nc o1 o2 env = o2 env := by
  rw [ap_oif, h]; rfl
theorem lc_cnt {mi : Env' → Res (List D)} {v : Nat} {nc : Env' → Res Bool} {vs : List Nat} {env : Env'} {n : Nat} (q : Nat → Bool) (hi : mi env = .ok (rng 0 n)) (hz : n ≤ 16777216) (hv : v < (wipeE env vs).length)
    (h : ∀ k, k < n → nc ((wipeE env vs).set v (some (.int (k : Nat)))) = .ok (q k)) : ∃ ds, mLc mi (gN v) nc (mVar v) vs env = .ok (.list ds) ∧ ds.length = cnt q n := by
  let p : D → Bool := fun d => match d with | .int i => q i.toNat | _ => false
  have h1 := lc_map (v := v) (m := mVar v) (nc := nc) (env := wipeE env vs) p id (ds := rng 0 n) (by
    intro d hd
    obtain ⟨k, hk, rfl⟩ := rng_mem hd
    rw [Int.zero_add]
    refine ⟨by rw [h k hk]; rfl, fun _ => ?_⟩
    rw [ap_var, List.getElem?_set_self hv]
    rfl)
  have hl : (((rng 0 n).filter p).map id).length = cnt q n := by
    rw [List.length_map]
    unfold rng cnt
    rw [List.filter_map, List.length_map]
    congr 1
    refine List.filter_congr fun k _ => ?_
    show q (0 + (k : Int)).toNat = q k
    congr 1
    omega
  refine ⟨_, ?_, hl⟩
  rw [ap_lc, hi, Res.bind_ok, h1, ap_noX, Res.bind_ok, if_pos]
  have h2 : cnt q n ≤ n := by
    have := List.length_filter_le q (List.range n)
    rw [List.length_range] at this
    exact this
  exact sz_ge (by omega)
def fbT : Nat → List Nat
  | 0 => [98]
  | 1 => [97]
  | k + 2 => fbT (k + 1) ++ fbT k
def fbN : Nat → Nat
  | 0 => 1
  | 1 => 1
  | k + 2 => fbN (k + 1) + fbN k
theorem fbT_len2 : ∀ k, (fbT k).length = fbN k ∧ (fbT (k + 1)).length = fbN (k + 1)
  | 0 => ⟨rfl, rfl⟩
  | k + 1 => by
    obtain ⟨h1, h2⟩ := fbT_len2 k
    refine ⟨h2, ?_⟩
    show (fbT (k + 1) ++ fbT k).length = fbN (k + 1) + fbN k
    rw [List.length_append, h1, h2]
theorem fbT_len (k : Nat) : (fbT k).length = fbN k := (fbT_len2 k).1
theorem fbN_pos2 : ∀ k, 0 < fbN k ∧ 0 < fbN (k + 1)
  | 0 => ⟨by decide, by decide⟩
  | k + 1 => by
    obtain ⟨h1, h2⟩ := fbN_pos2 k
    refine ⟨h2, ?_⟩
    show 0 < fbN (k + 1) + fbN k
    omega
theorem fbN_pos (k : Nat) : 0 < fbN k := (fbN_pos2 k).1
def fbs : Nat → List Sy
  | 0 => [.L 98, .L 97]
  | k + 1 => fbs k ++ [.P (k + 1) k]
theorem fbs_len : ∀ k, (fbs k).length = k + 2
  | 0 => rfl
  | k + 1 => by simp [fbs, fbs_len k]
theorem fbs_wf : ∀ k, WF (fbs k)
  | 0 => (WF.nil.snoc (x := .L 98) (by decide)).snoc (x := .L 97) (by decide)
  | k + 1 => by
    have h := fbs_len k
    exact (fbs_wf k).snoc (x := .P (k + 1) k) ⟨by omega, by omega⟩
theorem fbs_tx : ∀ m k, k < m + 2 → tx (fbs m) k = fbT k
  | 0, 0, _ => rfl
  | 0, 1, _ => rfl
  | m + 1, k, h => by
    have hl := fbs_len m
    by_cases hk : k < m + 2
    · show tx (fbs m ++ [.P (m + 1) m]) k = _
      rw [tx_app1 (by omega)]
      exact fbs_tx m k hk
    · obtain rfl : k = m + 2 := by omega
      show tx (fbs m ++ [.P (m + 1) m]) (m + 2) = _
      have := tx_new (fbs_wf (m + 1)) (i := m + 1) (j := m) (by omega) (by omega)
      rw [hl] at this
      rw [this, fbs_tx m (m + 1) (by omega), fbs_tx m m (by omega)]
      rfl
theorem fbs_d : ∀ m, (fbs m).map Sy.d = [Sy.d (.L 98), Sy.d (.L 97)] ++ (List.range m).map fun k : Nat => PyData.tuple [.str ("pair" : String), .int ((k : Int) + 1), .int k]
  | 0 => rfl
  | m + 1 => by
    rw [fbs, List.map_append, fbs_d m, List.range_succ, List.map_append, List.append_assoc]
    rfl
def zcell (w t : List Nat) (m : Nat) : Nat × Bool := (KM.st w m t, decide (KM.ct w m t = 0))
def ztab (w t : List Nat) : List (Nat × Bool) := (List.range (w.length + 1)).map (zcell w t)
def zcmp (A B : List (Nat × Bool)) : List (Nat × Bool) := A.map fun p => ((B.getD p.1 (0, false)).1, p.2 && (B.getD p.1 (0, false)).2)
theorem ztab_get {w t : List Nat} {m : Nat} (h : m ≤ w.length) : (ztab w t).getD m (0, false) = zcell w t m := by
  unfold ztab
  rw [List.getD_eq_getElem?_getD, List.getElem?_map, List.getElem?_range (by omega)]
  rfl
theorem ztab_app (w t u : List Nat) : ztab w (t ++ u) = zcmp (ztab w t) (ztab w u) := by
  show ztab w (t ++ u) = ((List.range (w.length + 1)).map (zcell w t)).map fun p => (((ztab w u).getD p.1 (0, false)).1, p.2 && ((ztab w u).getD p.1 (0, false)).2)
  rw [List.map_map]
  refine List.map_congr_left fun m hm => ?_
  rw [List.mem_range] at hm
  have hm' : m ≤ w.length := by omega
  simp only [Function.comp_apply]
  rw [show (zcell w t m).1 = KM.st w m t from rfl, ztab_get (KM.st_le w m t)]
  unfold zcell
  rw [KM.st_app, KM.ct_app w t m u hm']
  congr 1
  by_cases h1 : KM.ct w m t = 0
  · by_cases h2 : KM.ct w (KM.st w m t) u = 0
    · simp [h1, h2]
    · simp [h1, h2]
  · have : ¬ (KM.ct w m t + KM.ct w (KM.st w m t) u = 0) := by omega
    simp [h1]
def iter {α : Type} (F : α → α) : Nat → α → List α
  | 0, _ => []
  | n + 1, x => x :: iter F n (F x)
theorem orb {α : Type} {F : α → α} {x : Nat → α} (hx : ∀ k, x (k + 1) = F (x k)) {L : List α} (h0 : x 0 ∈ L) (hc : ∀ y ∈ L, F y ∈ L) : ∀ k, x k ∈ L
  | 0 => h0
  | k + 1 => by rw [hx]; exact hc _ (orb hx h0 hc k)
theorem ct_one {c : Nat} : ∀ (t : List Nat) (m : Nat), m ≤ 1 → KM.ct [c] m t = (t.filter fun x => decide (x = c)).length := by
  intro t
  induction t with
  | nil => intro m _; rfl
  | cons x t ih =>
    intro m hm
    rw [KM.ct, ih _ (KM.st_le [c] m [x]), List.filter_cons]
    have e : KM.st [c] m [x] = [c].length ↔ x = c := by
      unfold KM.st
      rw [KM.st_full, KM.suf_app]
      constructor
      · rintro (h | ⟨Y, h, _⟩)
        · have := h.eq_of_length rfl
          injection this with h; exact h.symm
        · have h' := congrArg List.length h
          simp at h'
          subst h'
          injection h with h; exact h.symm
      · rintro rfl; exact .inl (List.suffix_refl _)
    by_cases h : x = c
    · rw [if_pos (e.mpr h), decide_eq_true h]; simp; omega
    · rw [if_neg (fun z => h (e.mp z)), decide_eq_false h]; simp
theorem lx0 {a b : D} : ixD (.list [a, b]) (.int 0) = some a := ix_nat (n := 0) rfl
theorem lx1 {a b : D} : ixD (.list [a, b]) (.int 1) = some b := ix_nat (n := 1) rfl
theorem isi_int {i : Int} : isiD "int" (.int i) = some (.bool true) := by
  show (kitB "int" "int").map PyData.bool = _
  exact congrArg (fun o => Option.map PyData.bool o) (by decide +kernel : kitB "int" "int" = some true)
theorem isi_str {x : Str} : isiD "int" (.str x) = some (.bool false) := by
  show (kitB "str" "int").map PyData.bool = _
  exact congrArg (fun o => Option.map PyData.bool o) (by decide +kernel : kitB "str" "int" = some false)
theorem pick3 {a b c l : Int} {n : Nat} (hl : 0 ≤ l ∧ l < 3) (ha : 0 ≤ a ∧ a < n) (hb : 0 ≤ b ∧ b < n) (hc : 0 ≤ c ∧ c < n) : ∃ i : Nat, i < n ∧ ixD (.list [.int a, .int b, .int c]) (.int l) = some (.int i) := by
  obtain ⟨k, rfl, hk⟩ := int_in (n := 3) hl
  obtain ⟨a, rfl, ha2⟩ := int_in ha
  obtain ⟨b, rfl, hb2⟩ := int_in hb
  obtain ⟨c, rfl, hc2⟩ := int_in hc
  match k, hk with
  | 0, _ => exact ⟨a, ha2, ix_nat rfl⟩
  | 1, _ => exact ⟨b, hb2, ix_nat rfl⟩
  | 2, _ => exact ⟨c, hc2, ix_nat rfl⟩
theorem letters4 {v : Int} : ∃ cs : List Nat, ixD (.list [.str ("ab" : String), .str ("abc" : String), .str ("a" : String), .str ("x ~" : String)]) (.int (v % 4)) = some (.str (txS cs)) ∧ 0 < cs.length ∧ cs.length ≤ 4 ∧ ∀ c ∈ cs, c < 128 := by
  obtain ⟨k, hk, hk4⟩ := mod_nat v (n := 4) (by omega)
  rw [show ((4 : Nat) : Int) = 4 from rfl] at hk
  rw [hk]
  have e1 : (("ab" : String) : Str) = txS [97, 98] := by decide +kernel
  have e2 : (("abc" : String) : Str) = txS [97, 98, 99] := by decide +kernel
  have e3 : (("a" : String) : Str) = txS [97] := by decide +kernel
  have e4 : (("x ~" : String) : Str) = txS [120, 32, 126] := by decide +kernel
  rw [e1, e2, e3, e4]
  match k, hk4 with
  | 0, _ => exact ⟨_, ix_nat rfl, by decide, by decide, by decide⟩
  | 1, _ => exact ⟨_, ix_nat rfl, by decide, by decide, by decide⟩
  | 2, _ => exact ⟨_, ix_nat rfl, by decide, by decide, by decide⟩
  | 3, _ => exact ⟨_, ix_nat rfl, by decide, by decide, by decide⟩
theorem walk_tx (cs : List Nat) : walkD (.str (txS cs)) = .ok (cs.map fun c => .str (txS [c])) := by simp [walkD, txS]
end DL

namespace DL
open PySem PySem.Spec L2
/-! ### how often a word stands in a text: over the seam -/
def lst (n : Nat) (t : List Nat) : List Nat := t.drop (t.length - n)
theorem lst_len (n : Nat) (t : List Nat) : (lst n t).length = min n t.length := by unfold lst; rw [List.length_drop]; omega
abbrev wq (w t : List Nat) : Nat → Bool := fun k => decide ((t.drop k).take w.length = w)
theorem occ_cnt (w t : List Nat) : KM.occ w t = cnt (wq w t) (t.length + 1 - w.length) := rfl
theorem take_app_len {u y : List Nat} (m : Nat) : u ++ y.take m = (u ++ y).take (u.length + m) := by
  rw [List.take_append, List.take_of_length_le (l := u) (by omega), Nat.add_sub_cancel_left]
theorem win_take {t : List Nat} {L k n : Nat} (h : k + n ≤ L) : ((t.take L).drop k).take n = (t.drop k).take n := by
  rw [List.drop_take, List.take_take, Nat.min_eq_left (by omega)]
theorem occ_app {w x y : List Nat} (hw : 0 < w.length) : KM.occ w (x ++ y) = KM.occ w x + KM.occ w y + KM.occ w (lst (w.length - 1) x ++ y.take (w.length - 1)) := by
  obtain ⟨m, hm⟩ : ∃ m, w.length = m + 1 := ⟨w.length - 1, by omega⟩
  rw [occ_cnt, occ_cnt, occ_cnt, occ_cnt, hm, Nat.add_sub_cancel]
  have hz : (lst m x ++ y.take m).length = min m x.length + min m y.length := by rw [List.length_append, lst_len, List.length_take]
  obtain ⟨o, ho⟩ : ∃ o, o = x.length + 1 - (m + 1) := ⟨_, rfl⟩
  obtain ⟨c, hc⟩ : ∃ c, c = (lst m x ++ y.take m).length + 1 - (m + 1) := ⟨_, rfl⟩
  obtain ⟨d, hd⟩ : ∃ d, d = y.length + 1 - (m + 1) := ⟨_, rfl⟩
  have e : (x ++ y).length + 1 - (m + 1) = o + c + d := by rw [List.length_append]; omega
  rw [e, ← ho, ← hc, ← hd, cnt_add, cnt_add]
  have h1 : cnt (wq w (x ++ y)) o = cnt (wq w x) o := cnt_congr fun k hk => by
    show decide _ = decide _
    rw [hm, List.drop_append_of_le_length (by omega), List.take_append_of_le_length (by rw [List.length_drop]; omega)]
  have h2 : cnt (fun k => wq w (x ++ y) (o + k)) c = cnt (wq w (lst m x ++ y.take m)) c := cnt_congr fun k hk => by
    show decide _ = decide _
    have ex : (x ++ y).drop o = lst m x ++ y := by
      rw [List.drop_append_of_le_length (by omega)]
      congr 1
      unfold lst
      congr 1
      omega
    rw [hm, ← List.drop_drop, ex, take_app_len, win_take (by rw [hz] at hc; rw [lst_len]; omega)]
  have h3 : cnt (fun k => wq w (x ++ y) (o + c + k)) d = cnt (wq w y) d := cnt_congr fun k hk => by
    show decide _ = decide _
    have ex : (x ++ y).drop (o + c + k) = y.drop k := by
      rw [show o + c + k = x.length + k by omega, ← List.drop_drop, List.drop_left]
    rw [hm, ex]
  rw [h1, h2, h3]
  omega
theorem occ_one {w : List Nat} (hw : 0 < w.length) (c : Nat) : KM.occ w [c] = if [c] = w then 1 else 0 := by
  rw [occ_cnt]
  by_cases h : w.length = 1
  · rw [h]
    show cnt (wq w [c]) 1 = _
    unfold cnt
    rw [show List.range 1 = [0] from rfl, List.filter_cons]
    have : wq w [c] 0 = decide ([c] = w) := by
      show decide _ = decide _
      rw [h]
      rfl
    rw [this]
    by_cases hq : [c] = w
    · simp [hq]
    · simp [hq]
  · have : [c].length + 1 - w.length = 0 := by simp; omega
    rw [this]
    have hne : ¬ [c] = w := fun z => h (by rw [← z]; rfl)
    rw [if_neg hne]
    rfl
theorem occ_le (w t : List Nat) : KM.occ w t ≤ t.length + 1 := by
  unfold KM.occ
  have := List.length_filter_le (fun k => decide ((t.drop k).take w.length = w)) (List.range (t.length + 1 - w.length))
  rw [List.length_range] at this
  omega
/-- the same letter throughout -/
theorem occ_rep {n N c : Nat} (hn : 0 < n) : KM.occ (List.replicate n c) (List.replicate N c) = N + 1 - n := by
  rw [occ_cnt, List.length_replicate, List.length_replicate]
  unfold cnt
  rw [List.filter_eq_self.mpr, List.length_range]
  intro k hk
  rw [List.mem_range] at hk
  show decide _ = true
  rw [List.drop_replicate, List.take_replicate, List.length_replicate, Nat.min_eq_left (by omega)]
  simp
/-! ### edges of texts -/
theorem take_take12 (x y : List Nat) (n : Nat) : (x.take n ++ y.take n).take n = (x ++ y).take n := by
  rw [List.take_append, List.take_append, List.take_take, Nat.min_self, List.take_take, List.length_take]
  rw [show min (n - min n x.length) n = n - x.length by omega]
theorem lst_lst12 (x y : List Nat) (n : Nat) : lst n (lst n x ++ lst n y) = lst n (x ++ y) := by
  have hx := lst_len n x
  have hy := lst_len n y
  have e1 : lst n (lst n x ++ lst n y) = (lst n x).drop (min n x.length + min n y.length - n) ++ (lst n y).drop (min n x.length + min n y.length - n - min n x.length) := by
    show List.drop ((lst n x ++ lst n y).length - n) _ = _
    rw [List.length_append, hx, hy, List.drop_append, hx]
  have e2 : lst n (x ++ y) = x.drop (x.length + y.length - n) ++ y.drop (x.length + y.length - n - x.length) := by
    show List.drop ((x ++ y).length - n) _ = _
    rw [List.length_append, List.drop_append]
  rw [e1, e2]
  unfold lst
  rw [List.drop_drop, List.drop_drop, show y.length - n + (min n x.length + min n y.length - n - min n x.length) = x.length + y.length - n - x.length by omega]
  congr 1
  by_cases h : y.length ≤ n
  · rw [show x.length - n + (min n x.length + min n y.length - n) = x.length + y.length - n by omega]
  · rw [List.drop_of_length_le (by omega), List.drop_of_length_le (by omega)]
theorem lst_lst {x : List Nat} {m n : Nat} (h : m ≤ n) : lst m (lst n x) = lst m x := by
  unfold lst
  rw [List.length_drop, List.drop_drop]
  congr 1
  omega
/-! ### known texts -/
def pwa : Nat → List Sy
  | 0 => [.L 97]
  | k + 1 => pwa k ++ [.P k k]
theorem pwa_len : ∀ k, (pwa k).length = k + 1
  | 0 => rfl
  | k + 1 => by simp [pwa, pwa_len k]
theorem pwa_wf : ∀ k, WF (pwa k)
  | 0 => WF.nil.snoc (x := .L 97) (by decide)
  | k + 1 => by
    have h := pwa_len k
    exact (pwa_wf k).snoc (x := .P k k) ⟨by omega, by omega⟩
theorem pwa_tx : ∀ m k, k ≤ m → tx (pwa m) k = List.replicate (2 ^ k) 97
  | 0, 0, _ => rfl
  | m + 1, k, h => by
    have hl := pwa_len m
    by_cases hk : k ≤ m
    · show tx (pwa m ++ [.P m m]) k = _
      rw [tx_app1 (by omega)]
      exact pwa_tx m k hk
    · obtain rfl : k = m + 1 := by omega
      show tx (pwa m ++ [.P m m]) (m + 1) = _
      have := tx_new (pwa_wf (m + 1)) (i := m) (j := m) (by omega) (by omega)
      rw [hl] at this
      rw [this, pwa_tx m m (Nat.le_refl _), List.replicate_append_replicate, Nat.pow_succ]
      congr 1
      omega
theorem pwa_d : ∀ m, (pwa m).map Sy.d = [Sy.d (.L 97)] ++ (List.range m).map fun k : Nat => PyData.tuple [.str ("pair" : String), .int (k : Int), .int k]
  | 0 => rfl
  | m + 1 => by
    rw [pwa, List.map_append, pwa_d m, List.range_succ, List.map_append, List.append_assoc]
    rfl
/-- ab, doubled -/
def abT : Nat → List Nat
  | 0 => [97, 98]
  | k + 1 => abT k ++ abT k
def pab : Nat → List Sy
  | 0 => [.L 97, .L 98, .P 0 1]
  | k + 1 => pab k ++ [.P (k + 2) (k + 2)]
theorem pab_len : ∀ k, (pab k).length = k + 3
  | 0 => rfl
  | k + 1 => by simp [pab, pab_len k]
theorem pab_wf : ∀ k, WF (pab k)
  | 0 => ((WF.nil.snoc (x := .L 97) (by decide)).snoc (x := .L 98) (by decide)).snoc (x := .P 0 1) (by decide)
  | k + 1 => by
    have h := pab_len k
    exact (pab_wf k).snoc (x := .P (k + 2) (k + 2)) ⟨by omega, by omega⟩
theorem pab_tx : ∀ m, tx (pab m) (m + 2) = abT m
  | 0 => rfl
  | m + 1 => by
    have hl := pab_len m
    show tx (pab m ++ [.P (m + 2) (m + 2)]) (m + 1 + 2) = _
    have := tx_new (pab_wf (m + 1)) (i := m + 2) (j := m + 2) (by omega) (by omega)
    rw [hl] at this
    rw [show m + 1 + 2 = m + 3 by omega, this, pab_tx m]
    rfl
theorem pab_d : ∀ m, (pab m).map Sy.d = [Sy.d (.L 97), Sy.d (.L 98), Sy.d (.P 0 1)] ++ (List.range m).map fun k : Nat => PyData.tuple [.str ("pair" : String), .int (2 + (k : Int)), .int (2 + (k : Int))]
  | 0 => rfl
  | m + 1 => by
    rw [pab, List.map_append, pab_d m, List.range_succ, List.map_append, List.append_assoc]
    have e : Sy.d (.P (m + 2) (m + 2)) = PyData.tuple [.str ("pair" : String), .int (2 + (m : Int)), .int (2 + (m : Int))] := by
      show PyData.tuple [.str ("pair" : String), .int ((m + 2 : Nat) : Int), .int ((m + 2 : Nat) : Int)] = _
      rw [show ((m + 2 : Nat) : Int) = 2 + (m : Int) by omega]
    rw [List.map_cons, List.map_nil, List.map_cons, List.map_nil, e]
theorem ab_ab : ∀ j m, m ≤ 2 → KM.st [97, 98] m (abT j) = 2 ∧ KM.ct [97, 98] m (abT j) = 2 ^ j
  | 0, m, h => by
    have : ∀ m ≤ 2, KM.st [97, 98] m (abT 0) = 2 ∧ KM.ct [97, 98] m (abT 0) = 2 ^ 0 := by decide +kernel
    exact this m h
  | j + 1, m, h => by
    obtain ⟨h1, h2⟩ := ab_ab j m h
    obtain ⟨h3, h4⟩ := ab_ab j 2 (Nat.le_refl _)
    rw [abT, KM.st_app, KM.ct_app _ _ _ _ h, h1, h2, h4, Nat.pow_succ]
    exact ⟨h3, by omega⟩
theorem ab_ba : ∀ j, KM.st [98, 97] 0 (abT j) = 1 ∧ KM.st [98, 97] 1 (abT j) = 1 ∧ KM.ct [98, 97] 0 (abT j) + 1 = 2 ^ j ∧ KM.ct [98, 97] 1 (abT j) = 2 ^ j
  | 0 => by decide +kernel
  | j + 1 => by
    obtain ⟨h1, h2, h3, h4⟩ := ab_ba j
    rw [abT, KM.st_app, KM.st_app, KM.ct_app _ _ _ _ (Nat.zero_le _), KM.ct_app _ _ 1 _ (by decide), h1, h2, h4, Nat.pow_succ]
    exact ⟨rfl, h2, by omega, by omega⟩
theorem ab_aa : ∀ j, KM.st [97, 97] 0 (abT j) = 0 ∧ KM.ct [97, 97] 0 (abT j) = 0
  | 0 => by decide +kernel
  | j + 1 => by
    obtain ⟨h1, h2⟩ := ab_aa j
    rw [abT, KM.st_app, KM.ct_app _ _ _ _ (Nat.zero_le _), h1, h2]
    exact ⟨h1, rfl⟩
/-- b in the grown words -/
def bN : Nat → Nat
  | 0 => 1
  | 1 => 0
  | k + 2 => bN (k + 1) + bN k
theorem fb_b2 : ∀ k, KM.ct [98] 0 (fbT k) = bN k ∧ KM.ct [98] 0 (fbT (k + 1)) = bN (k + 1)
  | 0 => ⟨by decide +kernel, by decide +kernel⟩
  | k + 1 => by
    obtain ⟨h1, h2⟩ := fb_b2 k
    refine ⟨h2, ?_⟩
    show KM.ct [98] 0 (fbT (k + 1) ++ fbT k) = bN (k + 1) + bN k
    rw [ct_one _ _ (Nat.zero_le _)] at h1 h2 ⊢
    rw [List.filter_append, List.length_append, h1, h2]
def zX2 (w : List Nat) (k : Nat) : List (Nat × Bool) × List (Nat × Bool) := (ztab w (fbT k), ztab w (fbT (k + 1)))
def zF2 (x : List (Nat × Bool) × List (Nat × Bool)) : List (Nat × Bool) × List (Nat × Bool) := (x.2, zcmp x.2 x.1)
theorem zX2_succ (w : List Nat) (k : Nat) : zX2 w (k + 1) = zF2 (zX2 w k) := by
  unfold zX2 zF2
  show (_, ztab w (fbT (k + 1) ++ fbT k)) = _
  rw [ztab_app]
theorem fb_bb (k : Nat) : KM.ct [98, 98] 0 (fbT k) = 0 := by
  have h0 : zX2 [98, 98] 0 ∈ iter zF2 8 (zX2 [98, 98] 0) := by decide +kernel
  have hc : ∀ y ∈ iter zF2 8 (zX2 [98, 98] 0), zF2 y ∈ iter zF2 8 (zX2 [98, 98] 0) := by decide +kernel
  have hz : ∀ y ∈ iter zF2 8 (zX2 [98, 98] 0), (y.1.getD 0 (0, false)).2 = true := by decide +kernel
  have h := hz _ (orb (zX2_succ [98, 98]) h0 hc k)
  rw [show (zX2 [98, 98] k).1 = ztab [98, 98] (fbT k) from rfl, ztab_get (Nat.zero_le _)] at h
  simpa [zcell] using h
end DL

namespace K67
open PySem PySem.Spec L2 DL
theorem check_in {s : List Sy} {R : D} {k : Nat} (h : k < s.length) : m_check_symbol [.tuple [sy s, R], .int k] = .ok .none := by
  refine run_nx (e := [some (.tuple [sy s, R]), some (.int k)]) ?_
  have h1 : (0 : Int) ≤ (k : Int) := by omega
  have h2 : (k : Int) < (s.length : Int) := by omega
  simp only [o_check_symbol, ap_var, ap_c, ap_m1, ap_m2, ap_m3, ap_part, ap_nopart, ap_if, ap_isN, ap_notN, ap_list, ap_tup, ap_nil, ap_cons, ap_cb, ap_m1m, ap_chain, ap_isi, ap_mB, ap_asB, ap_and, ap_or, ap_not, ap_yes, ap_call, ap_lc, ap_noX, ap_iseq, ap_iown, ap_seq, th_nx, th_rt, th_exc, ap_skip, ap_set, ap_asg, ap_aug, ap_lm, ap_put, ap_oif, ap_ret, ap_drop, ap_raise, ap_gN, ap_gT, ap_gsN, ap_gsC, ap_app, Res.bind_ok, Res.bind_exc, Res.of_some, exOut_ok, exOut_exc, wipeE, Option.bind_some, List.length_cons, List.length_nil, List.getElem?_cons_zero, List.getElem?_cons_succ, List.set_cons_zero, List.set_cons_succ, List.map_cons, List.map_nil, add_ii, sub_ii, cmpI, negD, modD, ap_lenL, ap_lenT, intD, int1, int2, walkD, if_true, if_false, decide_eq_true_eq, Bool.false_eq_true, reduceIte, Nat.reduceAdd, Nat.reduceSub, List.replicate_succ, List.replicate_zero, List.cons_append, List.nil_append, ix0, List.length_map, h1, h2, decide_true, Bool.not_true]
theorem check_out {s : List Sy} {R : D} {k : Int} (h : ¬ (0 ≤ k ∧ k < s.length)) : m_check_symbol [.tuple [sy s, R], .int k] = .exc "OutOfRange" (.int k) := by
  refine run_exc (e := [some (.tuple [sy s, R]), some (.int k)]) ?_
  by_cases h1 : (0 : Int) ≤ k
  · have h2 : ¬ k < (s.length : Int) := fun z => h ⟨h1, z⟩
    simp only [o_check_symbol, ap_var, ap_c, ap_m1, ap_m2, ap_m3, ap_part, ap_nopart, ap_if, ap_isN, ap_notN, ap_list, ap_tup, ap_nil, ap_cons, ap_cb, ap_m1m, ap_chain, ap_isi, ap_mB, ap_asB, ap_and, ap_or, ap_not, ap_yes, ap_call, ap_lc, ap_noX, ap_iseq, ap_iown, ap_seq, th_nx, th_rt, th_exc, ap_skip, ap_set, ap_asg, ap_aug, ap_lm, ap_put, ap_oif, ap_ret, ap_drop, ap_raise, ap_gN, ap_gT, ap_gsN, ap_gsC, ap_app, Res.bind_ok, Res.bind_exc, Res.of_some, exOut_ok, exOut_exc, wipeE, Option.bind_some, List.length_cons, List.length_nil, List.getElem?_cons_zero, List.getElem?_cons_succ, List.set_cons_zero, List.set_cons_succ, List.map_cons, List.map_nil, add_ii, sub_ii, cmpI, negD, modD, ap_lenL, ap_lenT, intD, int1, int2, walkD, if_true, if_false, decide_eq_true_eq, Bool.false_eq_true, reduceIte, Nat.reduceAdd, Nat.reduceSub, List.replicate_succ, List.replicate_zero, List.cons_append, List.nil_append, ix0, List.length_map, h1, h2, decide_true, decide_false, Bool.not_false]
  · simp only [o_check_symbol, ap_var, ap_c, ap_m1, ap_m2, ap_m3, ap_part, ap_nopart, ap_if, ap_isN, ap_notN, ap_list, ap_tup, ap_nil, ap_cons, ap_cb, ap_m1m, ap_chain, ap_isi, ap_mB, ap_asB, ap_and, ap_or, ap_not, ap_yes, ap_call, ap_lc, ap_noX, ap_iseq, ap_iown, ap_seq, th_nx, th_rt, th_exc, ap_skip, ap_set, ap_asg, ap_aug, ap_lm, ap_put, ap_oif, ap_ret, ap_drop, ap_raise, ap_gN, ap_gT, ap_gsN, ap_gsC, ap_app, Res.bind_ok, Res.bind_exc, Res.of_some, exOut_ok, exOut_exc, wipeE, Option.bind_some, List.length_cons, List.length_nil, List.getElem?_cons_zero, List.getElem?_cons_succ, List.set_cons_zero, List.set_cons_succ, List.map_cons, List.map_nil, add_ii, sub_ii, cmpI, negD, modD, ap_lenL, ap_lenT, intD, int1, int2, walkD, if_true, if_false, decide_eq_true_eq, Bool.false_eq_true, reduceIte, Nat.reduceAdd, Nat.reduceSub, List.replicate_succ, List.replicate_zero, List.cons_append, List.nil_append, ix0, List.length_map, h1, decide_false, Bool.not_false]
theorem count_ok {s : List Sy} (wf : WF s) (hz : s.length < 1000) {R : D} {w : List Nat} (hw : w.length ≤ 1000) {k : Nat} (hk : k < s.length) : m_count_in [.tuple [sy s, R], .int k, .str (txS w)] = .ok (.int (KM.ct w 0 (tx s k))) := by
  refine run_rt ?_
  show o_count_in [some (.tuple [sy s, R]), some (.int k), some (.str (txS w))] = _
  have g1 := mtl_get (w := w) hk
  have g2 := row_get (w := w) (t := tx s k) (m := 0) (Nat.zero_le _)
  have g3 : ixD (cellD w (tx s k) 0) (.int 1) = some (.int (KM.ct w 0 (tx s k))) := ix_tup (n := 1) rfl
  rw [show (((0 : Nat) : Int)) = 0 from rfl] at g2
  simp only [o_count_in, ap_var, ap_c, ap_m1, ap_m2, ap_m3, ap_part, ap_nopart, ap_if, ap_isN, ap_notN, ap_list, ap_tup, ap_nil, ap_cons, ap_cb, ap_m1m, ap_chain, ap_isi, ap_mB, ap_asB, ap_and, ap_or, ap_not, ap_yes, ap_call, ap_lc, ap_noX, ap_iseq, ap_iown, ap_seq, th_nx, th_rt, th_exc, ap_skip, ap_set, ap_asg, ap_aug, ap_lm, ap_put, ap_oif, ap_ret, ap_drop, ap_raise, ap_gN, ap_gT, ap_gsN, ap_gsC, ap_app, Res.bind_ok, Res.bind_exc, Res.of_some, exOut_ok, exOut_exc, wipeE, Option.bind_some, List.length_cons, List.length_nil, List.getElem?_cons_zero, List.getElem?_cons_succ, List.set_cons_zero, List.set_cons_succ, List.map_cons, List.map_nil, add_ii, sub_ii, cmpI, negD, modD, ap_lenL, ap_lenT, intD, int1, int2, walkD, if_true, if_false, decide_eq_true_eq, Bool.false_eq_true, reduceIte, Nat.reduceAdd, Nat.reduceSub, List.replicate_succ, List.replicate_zero, List.cons_append, List.nil_append, check_in hk, meetings_ok wf hz hw, g1, g2, g3]
theorem power_ok {n : Nat} (hn : n ≤ 5000) : m__law_power [.int n] = .ok (.int ((2 ^ n : Nat) : Int)) := by
  suffices H : ∃ x, o__law_power [some (.int n), none, none] = x ∧ x = .rt (.int ((2 ^ n : Nat) : Int)) by
    obtain ⟨x, h1, rfl⟩ := H
    exact run_rt h1
  refine seq_ex (e := [some (.int n), some (.int ((1 : Nat) : Int)), none]) ?_ ?_
  · simp only [ap_var, ap_c, ap_m1, ap_m2, ap_m3, ap_part, ap_nopart, ap_if, ap_isN, ap_notN, ap_list, ap_tup, ap_nil, ap_cons, ap_cb, ap_m1m, ap_chain, ap_isi, ap_mB, ap_asB, ap_and, ap_or, ap_not, ap_yes, ap_call, ap_lc, ap_noX, ap_iseq, ap_iown, ap_seq, th_nx, th_rt, th_exc, ap_skip, ap_set, ap_asg, ap_aug, ap_lm, ap_put, ap_oif, ap_ret, ap_drop, ap_raise, ap_gN, ap_gT, ap_gsN, ap_gsC, ap_app, Res.bind_ok, Res.bind_exc, Res.of_some, exOut_ok, exOut_exc, wipeE, Option.bind_some, List.length_cons, List.length_nil, List.getElem?_cons_zero, List.getElem?_cons_succ, List.set_cons_zero, List.set_cons_succ, List.map_cons, List.map_nil, add_ii, sub_ii, cmpI, negD, modD, ap_lenL, ap_lenT, intD, int1, int2, walkD, if_true, if_false, decide_eq_true_eq, Bool.false_eq_true, reduceIte, Nat.reduceAdd, Nat.reduceSub, List.replicate_succ, List.replicate_zero, List.cons_append, List.nil_append]
    rfl
  refine seq_for (fun m e => ∃ j, e = [some (.int n), some (.int ((2 ^ m : Nat) : Int)), j]) (rng 0 n) ?_ ⟨none, rfl⟩ ?_ ?_
  · refine irange_ok (l := [.int n]) ?_ (range1 (by omega))
    simp only [ap_var, ap_c, ap_m1, ap_m2, ap_m3, ap_part, ap_nopart, ap_if, ap_isN, ap_notN, ap_list, ap_tup, ap_nil, ap_cons, ap_cb, ap_m1m, ap_chain, ap_isi, ap_mB, ap_asB, ap_and, ap_or, ap_not, ap_yes, ap_call, ap_lc, ap_noX, ap_iseq, ap_iown, ap_seq, th_nx, th_rt, th_exc, ap_skip, ap_set, ap_asg, ap_aug, ap_lm, ap_put, ap_oif, ap_ret, ap_drop, ap_raise, ap_gN, ap_gT, ap_gsN, ap_gsC, ap_app, Res.bind_ok, Res.bind_exc, Res.of_some, exOut_ok, exOut_exc, wipeE, Option.bind_some, List.length_cons, List.length_nil, List.getElem?_cons_zero, List.getElem?_cons_succ, List.set_cons_zero, List.set_cons_succ, List.map_cons, List.map_nil, add_ii, sub_ii, cmpI, negD, modD, ap_lenL, ap_lenT, intD, int1, int2, walkD, if_true, if_false, decide_eq_true_eq, Bool.false_eq_true, reduceIte, Nat.reduceAdd, Nat.reduceSub, List.replicate_succ, List.replicate_zero, List.cons_append, List.nil_append]
  · rintro m d e hd ⟨j, rfl⟩
    refine ⟨_, [some (.int n), some (.int ((2 ^ (m + 1) : Nat) : Int)), some d], rfl, ?_, _, rfl⟩
    have c2 : CMul 2 ((2 ^ m : Nat) : Int) := .inl ⟨by decide, by decide⟩
    have hg : mulG (.int 2) (.int ((2 ^ m : Nat) : Int)) = some (.int ((2 ^ (m + 1) : Nat) : Int)) := by
      show (if CMul 2 ((2 ^ m : Nat) : Int) then some (PyData.int (2 * ((2 ^ m : Nat) : Int))) else none) = _
      rw [if_pos c2, Nat.pow_succ]
      congr 2
      omega
    simp only [ap_var, ap_c, ap_m1, ap_m2, ap_m3, ap_part, ap_nopart, ap_if, ap_isN, ap_notN, ap_list, ap_tup, ap_nil, ap_cons, ap_cb, ap_m1m, ap_chain, ap_isi, ap_mB, ap_asB, ap_and, ap_or, ap_not, ap_yes, ap_call, ap_lc, ap_noX, ap_iseq, ap_iown, ap_seq, th_nx, th_rt, th_exc, ap_skip, ap_set, ap_asg, ap_aug, ap_lm, ap_put, ap_oif, ap_ret, ap_drop, ap_raise, ap_gN, ap_gT, ap_gsN, ap_gsC, ap_app, Res.bind_ok, Res.bind_exc, Res.of_some, exOut_ok, exOut_exc, wipeE, Option.bind_some, List.length_cons, List.length_nil, List.getElem?_cons_zero, List.getElem?_cons_succ, List.set_cons_zero, List.set_cons_succ, List.map_cons, List.map_nil, add_ii, sub_ii, cmpI, negD, modD, ap_lenL, ap_lenT, intD, int1, int2, walkD, if_true, if_false, decide_eq_true_eq, Bool.false_eq_true, reduceIte, Nat.reduceAdd, Nat.reduceSub, List.replicate_succ, List.replicate_zero, List.cons_append, List.nil_append, hg]
  · rintro e ⟨j, rfl⟩
    have hl : (rng 0 n).length = n := by simp [rng]
    refine ⟨_, ?_, rfl⟩
    simp only [ap_var, ap_c, ap_m1, ap_m2, ap_m3, ap_part, ap_nopart, ap_if, ap_isN, ap_notN, ap_list, ap_tup, ap_nil, ap_cons, ap_cb, ap_m1m, ap_chain, ap_isi, ap_mB, ap_asB, ap_and, ap_or, ap_not, ap_yes, ap_call, ap_lc, ap_noX, ap_iseq, ap_iown, ap_seq, th_nx, th_rt, th_exc, ap_skip, ap_set, ap_asg, ap_aug, ap_lm, ap_put, ap_oif, ap_ret, ap_drop, ap_raise, ap_gN, ap_gT, ap_gsN, ap_gsC, ap_app, Res.bind_ok, Res.bind_exc, Res.of_some, exOut_ok, exOut_exc, wipeE, Option.bind_some, List.length_cons, List.length_nil, List.getElem?_cons_zero, List.getElem?_cons_succ, List.set_cons_zero, List.set_cons_succ, List.map_cons, List.map_nil, add_ii, sub_ii, cmpI, negD, modD, ap_lenL, ap_lenT, intD, int1, int2, walkD, if_true, if_false, decide_eq_true_eq, Bool.false_eq_true, reduceIte, Nat.reduceAdd, Nat.reduceSub, List.replicate_succ, List.replicate_zero, List.cons_append, List.nil_append, hl]
end K67

namespace K67
open PySem PySem.Spec L2 DL
theorem symbols_ok {xs : List Int} (hx : 0 < xs.length) {at' most : Int} (hm : 0 ≤ most ∧ most ≤ 400) : ∃ s, m__law_symbols [li xs, .int at', .int most] = .ok (sy s) ∧ WF s ∧ 0 < s.length ∧ (s.length : Int) ≤ 4 + most := by
  suffices H : ∃ x, o__law_symbols [some (li xs), some (.int at'), some (.int most), none, none, none, none, none, none, none] = x ∧ ∃ s, x = .rt (sy s) ∧ WF s ∧ 0 < s.length ∧ (s.length : Int) ≤ 4 + most by
    obtain ⟨x, h0, s, h1, h2⟩ := H
    exact ⟨s, run_rt (h0.trans h1), h2⟩
  obtain ⟨v, _, hv⟩ := drawn_ok (a := at') hx
  obtain ⟨cs, e1, c1, c2, c3⟩ := letters4 (v := v)
  have w0 : ∀ cs : List Nat, (∀ c ∈ cs, c < 128) → WF (cs.map Sy.L) := by
    intro cs h
    constructor
    · intro k i j e
      obtain ⟨x, _, h2⟩ := map_get e
      cases h2
    · intro c e
      obtain ⟨z, h1, h2⟩ := List.mem_map.mp e
      injection h2 with h3
      subst h3
      exact h _ h1
  have z4 : 4 ≤ sizeLine := sz_ge (by omega)
  have z2 : 2 ≤ sizeLine := sz_ge (by omega)
  have z3 : 3 ≤ sizeLine := sz_ge (by omega)
  refine seq_ex (e := [some (li xs), some (.int at'), some (.int most), some (sy (cs.map Sy.L)), none, none, none, none, none, none]) ?_ ?_
  · simp only [ap_var, ap_c, ap_m1, ap_m2, ap_m3, ap_part, ap_nopart, ap_if, ap_isN, ap_notN, ap_list, ap_tup, ap_nil, ap_cons, ap_cb, ap_m1m, ap_chain, ap_isi, ap_mB, ap_asB, ap_and, ap_or, ap_not, ap_yes, ap_call, ap_lc, ap_noX, ap_iseq, ap_iown, ap_seq, th_nx, th_rt, th_exc, ap_skip, ap_set, ap_asg, ap_aug, ap_lm, ap_put, ap_oif, ap_ret, ap_drop, ap_raise, ap_gN, ap_gT, ap_gsN, ap_gsC, ap_app, Res.bind_ok, Res.bind_exc, Res.of_some, exOut_ok, exOut_exc, wipeE, Option.bind_some, List.length_cons, List.length_nil, List.getElem?_cons_zero, List.getElem?_cons_succ, List.set_cons_zero, List.set_cons_succ, List.map_cons, List.map_nil, addD, subD, cmpI, negD, modD, ap_lenL, ap_lenT, intD, int1, int2, walkD, if_true, if_false, decide_eq_true_eq, Bool.false_eq_true, reduceIte, Nat.reduceAdd, Nat.reduceSub, List.replicate_succ, List.replicate_zero, List.cons_append, List.nil_append, z4, hv, show (0 : Int) < 4 by decide, e1, tx_list]
    rw [lc_all (fun d => .tuple [.str ("letter" : String), d]) (by
      intro d hd
      simp only [ap_var, ap_c, ap_m1, ap_m2, ap_m3, ap_part, ap_nopart, ap_if, ap_isN, ap_notN, ap_list, ap_tup, ap_nil, ap_cons, ap_cb, ap_m1m, ap_chain, ap_isi, ap_mB, ap_asB, ap_and, ap_or, ap_not, ap_yes, ap_call, ap_lc, ap_noX, ap_iseq, ap_iown, ap_seq, th_nx, th_rt, th_exc, ap_skip, ap_set, ap_asg, ap_aug, ap_lm, ap_put, ap_oif, ap_ret, ap_drop, ap_raise, ap_gN, ap_gT, ap_gsN, ap_gsC, ap_app, Res.bind_ok, Res.bind_exc, Res.of_some, exOut_ok, exOut_exc, wipeE, Option.bind_some, List.length_cons, List.length_nil, List.getElem?_cons_zero, List.getElem?_cons_succ, List.set_cons_zero, List.set_cons_succ, List.map_cons, List.map_nil, addD, subD, cmpI, negD, modD, ap_lenL, ap_lenT, intD, int1, int2, walkD, if_true, if_false, decide_eq_true_eq, Bool.false_eq_true, reduceIte, Nat.reduceAdd, Nat.reduceSub, List.replicate_succ, List.replicate_zero, List.cons_append, List.nil_append, z2])]
    simp only [ap_var, ap_c, ap_m1, ap_m2, ap_m3, ap_part, ap_nopart, ap_if, ap_isN, ap_notN, ap_list, ap_tup, ap_nil, ap_cons, ap_cb, ap_m1m, ap_chain, ap_isi, ap_mB, ap_asB, ap_and, ap_or, ap_not, ap_yes, ap_call, ap_lc, ap_noX, ap_iseq, ap_iown, ap_seq, th_nx, th_rt, th_exc, ap_skip, ap_set, ap_asg, ap_aug, ap_lm, ap_put, ap_oif, ap_ret, ap_drop, ap_raise, ap_gN, ap_gT, ap_gsN, ap_gsC, ap_app, Res.bind_ok, Res.bind_exc, Res.of_some, exOut_ok, exOut_exc, wipeE, Option.bind_some, List.length_cons, List.length_nil, List.getElem?_cons_zero, List.getElem?_cons_succ, List.set_cons_zero, List.set_cons_succ, List.map_cons, List.map_nil, addD, subD, cmpI, negD, modD, ap_lenL, ap_lenT, intD, int1, int2, walkD, if_true, if_false, decide_eq_true_eq, Bool.false_eq_true, reduceIte, Nat.reduceAdd, Nat.reduceSub, List.replicate_succ, List.replicate_zero, List.cons_append, List.nil_append, List.length_map, sz_ge (show cs.length ≤ 16777216 by omega), List.map_map]
    rw [sy, List.map_map]
    rfl
  obtain ⟨v2, _, hv2⟩ := drawn_ok (a := at' + 1) hx
  obtain ⟨k0, hk0, hk1⟩ := mod_nat v2 (n := (most + 1).toNat) (by omega)
  rw [show (((most + 1).toNat : Nat) : Int) = most + 1 by omega] at hk0
  refine seq_for (fun n e => ∃ (s : List Sy) (j4 j5 j6 j7 j8 : Option D), e = [some (li xs), some (.int at'), some (.int most), some (sy s), j4, j5, j6, j7, j8, none] ∧ WF s ∧ 0 < s.length ∧ s.length ≤ 4 + n) (rng 0 k0) ?_ ⟨_, _, _, _, _, _, rfl, w0 cs c3, by simpa using c1, by simpa using c2⟩ ?_ ?_
  · refine irange_ok (l := [.int k0]) ?_ (range1 (by omega))
    simp only [ap_var, ap_c, ap_m1, ap_m2, ap_m3, ap_part, ap_nopart, ap_if, ap_isN, ap_notN, ap_list, ap_tup, ap_nil, ap_cons, ap_cb, ap_m1m, ap_chain, ap_isi, ap_mB, ap_asB, ap_and, ap_or, ap_not, ap_yes, ap_call, ap_lc, ap_noX, ap_iseq, ap_iown, ap_seq, th_nx, th_rt, th_exc, ap_skip, ap_set, ap_asg, ap_aug, ap_lm, ap_put, ap_oif, ap_ret, ap_drop, ap_raise, ap_gN, ap_gT, ap_gsN, ap_gsC, ap_app, Res.bind_ok, Res.bind_exc, Res.of_some, exOut_ok, exOut_exc, wipeE, Option.bind_some, List.length_cons, List.length_nil, List.getElem?_cons_zero, List.getElem?_cons_succ, List.set_cons_zero, List.set_cons_succ, List.map_cons, List.map_nil, addD, subD, cmpI, negD, modD, ap_lenL, ap_lenT, intD, int1, int2, walkD, if_true, if_false, decide_eq_true_eq, Bool.false_eq_true, reduceIte, Nat.reduceAdd, Nat.reduceSub, List.replicate_succ, List.replicate_zero, List.cons_append, List.nil_append, hv2, show (0 : Int) < most + 1 by omega, hk0]
  · rintro n d e hd ⟨s, j4, j5, j6, j7, j8, rfl, w, q1, q2⟩
    rw [rng_get] at hd
    split at hd <;> cases hd
    rename_i hn
    obtain ⟨v, _, hv⟩ := drawn_ok (a := at' + 2 + (0 + (n : Int))) hx
    have hsl : (0 : Int) < (s.length : Int) := by omega
    have k7 : CDiv v 7 := by unfold CDiv; omega
    have k21 : CDiv v 21 := by unfold CDiv; omega
    have k999 : CDiv v 999 := by unfold CDiv; omega
    have p3 : (0 : Int) < 3 := by decide
    obtain ⟨i, hi, ei⟩ := pick3 (l := v / 7 % 3) (a := v / 21 % (s.length : Int)) (b := (s.length : Int) - 1) (c := if (s.length : Int) - 2 > 0 then (s.length : Int) - 2 else 0) (n := s.length) (mod_in p3) (mod_in hsl) (by omega) (by split <;> omega)
    have m3 := mod_in (a := v / 999) p3
    obtain ⟨j, hj, ej⟩ := pick3 (l := v % 3) (a := v / 999 % (s.length : Int)) (b := (s.length : Int) - 1) (c := if (s.length : Int) - 1 - v / 999 % 3 > 0 then (s.length : Int) - 1 - v / 999 % 3 else 0) (n := s.length) (mod_in p3) (mod_in hsl) (by omega) (by split <;> omega)
    have ht := pin (wf_sml w (by omega)) (i := i) (j := j) (by omega) (by omega)
    generalize (!decide (Sy.P i j ∈ s)) = t at ht
    have zz : s.length < sizeLine := sz_gt (by omega)
    refine ⟨_, [some (li xs), some (.int at'), some (.int most), some (sy (if t = true then s ++ [.P i j] else s)), some (.int (0 + (n : Int))), some (.int v), some (.int (v / 7 % 3)), some (.int i), some (.int j), none], rfl, ?_, _, _, _, _, _, _, rfl, ?_⟩
    · refine seq_nx (e := [some (li xs), some (.int at'), some (.int most), some (sy s), some (.int (0 + (n : Int))), some (.int v), j6, j7, j8, none]) ?_ ?_
      · simp only [ap_var, ap_c, ap_m1, ap_m2, ap_m3, ap_part, ap_nopart, ap_if, ap_isN, ap_notN, ap_list, ap_tup, ap_nil, ap_cons, ap_cb, ap_m1m, ap_chain, ap_isi, ap_mB, ap_asB, ap_and, ap_or, ap_not, ap_yes, ap_call, ap_lc, ap_noX, ap_iseq, ap_iown, ap_seq, th_nx, th_rt, th_exc, ap_skip, ap_set, ap_asg, ap_aug, ap_lm, ap_put, ap_oif, ap_ret, ap_drop, ap_raise, ap_gN, ap_gT, ap_gsN, ap_gsC, ap_app, Res.bind_ok, Res.bind_exc, Res.of_some, exOut_ok, exOut_exc, wipeE, Option.bind_some, List.length_cons, List.length_nil, List.getElem?_cons_zero, List.getElem?_cons_succ, List.set_cons_zero, List.set_cons_succ, List.map_cons, List.map_nil, addD, subD, cmpI, negD, modD, ap_lenL, ap_lenT, intD, int1, int2, walkD, if_true, if_false, decide_eq_true_eq, Bool.false_eq_true, reduceIte, Nat.reduceAdd, Nat.reduceSub, List.replicate_succ, List.replicate_zero, List.cons_append, List.nil_append, hv]
      refine seq_nx (e := [some (li xs), some (.int at'), some (.int most), some (sy s), some (.int (0 + (n : Int))), some (.int v), some (.int (v / 7 % 3)), j7, j8, none]) ?_ ?_
      · simp only [ap_var, ap_c, ap_m1, ap_m2, ap_m3, ap_part, ap_nopart, ap_if, ap_isN, ap_notN, ap_list, ap_tup, ap_nil, ap_cons, ap_cb, ap_m1m, ap_chain, ap_isi, ap_mB, ap_asB, ap_and, ap_or, ap_not, ap_yes, ap_call, ap_lc, ap_noX, ap_iseq, ap_iown, ap_seq, th_nx, th_rt, th_exc, ap_skip, ap_set, ap_asg, ap_aug, ap_lm, ap_put, ap_oif, ap_ret, ap_drop, ap_raise, ap_gN, ap_gT, ap_gsN, ap_gsC, ap_app, Res.bind_ok, Res.bind_exc, Res.of_some, exOut_ok, exOut_exc, wipeE, Option.bind_some, List.length_cons, List.length_nil, List.getElem?_cons_zero, List.getElem?_cons_succ, List.set_cons_zero, List.set_cons_succ, List.map_cons, List.map_nil, addD, subD, cmpI, negD, modD, ap_lenL, ap_lenT, intD, int1, int2, walkD, if_true, if_false, decide_eq_true_eq, Bool.false_eq_true, reduceIte, Nat.reduceAdd, Nat.reduceSub, List.replicate_succ, List.replicate_zero, List.cons_append, List.nil_append, fdivD, k7, p3]
      refine seq_nx (e := [some (li xs), some (.int at'), some (.int most), some (sy s), some (.int (0 + (n : Int))), some (.int v), some (.int (v / 7 % 3)), some (.int i), j8, none]) ?_ ?_
      · simp only [ap_var, ap_c, ap_m1, ap_m2, ap_m3, ap_part, ap_nopart, ap_if, ap_isN, ap_notN, ap_list, ap_tup, ap_nil, ap_cons, ap_cb, ap_m1m, ap_chain, ap_isi, ap_mB, ap_asB, ap_and, ap_or, ap_not, ap_yes, ap_call, ap_lc, ap_noX, ap_iseq, ap_iown, ap_seq, th_nx, th_rt, th_exc, ap_skip, ap_set, ap_asg, ap_aug, ap_lm, ap_put, ap_oif, ap_ret, ap_drop, ap_raise, ap_gN, ap_gT, ap_gsN, ap_gsC, ap_app, Res.bind_ok, Res.bind_exc, Res.of_some, exOut_ok, exOut_exc, wipeE, Option.bind_some, List.length_cons, List.length_nil, List.getElem?_cons_zero, List.getElem?_cons_succ, List.set_cons_zero, List.set_cons_succ, List.map_cons, List.map_nil, addD, subD, cmpI, negD, modD, ap_lenL, ap_lenT, intD, int1, int2, walkD, if_true, if_false, decide_eq_true_eq, Bool.false_eq_true, reduceIte, Nat.reduceAdd, Nat.reduceSub, List.replicate_succ, List.replicate_zero, List.cons_append, List.nil_append, fdivD, k21, List.length_map, hsl, z3, ei]
      refine seq_nx (e := [some (li xs), some (.int at'), some (.int most), some (sy s), some (.int (0 + (n : Int))), some (.int v), some (.int (v / 7 % 3)), some (.int i), some (.int j), none]) ?_ ?_
      · simp only [ap_var, ap_c, ap_m1, ap_m2, ap_m3, ap_part, ap_nopart, ap_if, ap_isN, ap_notN, ap_list, ap_tup, ap_nil, ap_cons, ap_cb, ap_m1m, ap_chain, ap_isi, ap_mB, ap_asB, ap_and, ap_or, ap_not, ap_yes, ap_call, ap_lc, ap_noX, ap_iseq, ap_iown, ap_seq, th_nx, th_rt, th_exc, ap_skip, ap_set, ap_asg, ap_aug, ap_lm, ap_put, ap_oif, ap_ret, ap_drop, ap_raise, ap_gN, ap_gT, ap_gsN, ap_gsC, ap_app, Res.bind_ok, Res.bind_exc, Res.of_some, exOut_ok, exOut_exc, wipeE, Option.bind_some, List.length_cons, List.length_nil, List.getElem?_cons_zero, List.getElem?_cons_succ, List.set_cons_zero, List.set_cons_succ, List.map_cons, List.map_nil, addD, subD, cmpI, negD, modD, ap_lenL, ap_lenT, intD, int1, int2, walkD, if_true, if_false, decide_eq_true_eq, Bool.false_eq_true, reduceIte, Nat.reduceAdd, Nat.reduceSub, List.replicate_succ, List.replicate_zero, List.cons_append, List.nil_append, fdivD, k999, List.length_map, hsl, z3, p3, ej]
      cases t with
      | true =>
        simp only [ap_var, ap_c, ap_m1, ap_m2, ap_m3, ap_part, ap_nopart, ap_if, ap_isN, ap_notN, ap_list, ap_tup, ap_nil, ap_cons, ap_cb, ap_m1m, ap_chain, ap_isi, ap_mB, ap_asB, ap_and, ap_or, ap_not, ap_yes, ap_call, ap_lc, ap_noX, ap_iseq, ap_iown, ap_seq, th_nx, th_rt, th_exc, ap_skip, ap_set, ap_asg, ap_aug, ap_lm, ap_put, ap_oif, ap_ret, ap_drop, ap_raise, ap_gN, ap_gT, ap_gsN, ap_gsC, ap_app, Res.bind_ok, Res.bind_exc, Res.of_some, exOut_ok, exOut_exc, wipeE, Option.bind_some, List.length_cons, List.length_nil, List.getElem?_cons_zero, List.getElem?_cons_succ, List.set_cons_zero, List.set_cons_succ, List.map_cons, List.map_nil, addD, subD, cmpI, negD, modD, ap_lenL, ap_lenT, intD, int1, int2, walkD, if_true, if_false, decide_eq_true_eq, Bool.false_eq_true, reduceIte, Nat.reduceAdd, Nat.reduceSub, List.replicate_succ, List.replicate_zero, List.cons_append, List.nil_append, z3, ht, List.length_map, zz]
        simp [sy, Sy.d]
      | false =>
        simp only [ap_var, ap_c, ap_m1, ap_m2, ap_m3, ap_part, ap_nopart, ap_if, ap_isN, ap_notN, ap_list, ap_tup, ap_nil, ap_cons, ap_cb, ap_m1m, ap_chain, ap_isi, ap_mB, ap_asB, ap_and, ap_or, ap_not, ap_yes, ap_call, ap_lc, ap_noX, ap_iseq, ap_iown, ap_seq, th_nx, th_rt, th_exc, ap_skip, ap_set, ap_asg, ap_aug, ap_lm, ap_put, ap_oif, ap_ret, ap_drop, ap_raise, ap_gN, ap_gT, ap_gsN, ap_gsC, ap_app, Res.bind_ok, Res.bind_exc, Res.of_some, exOut_ok, exOut_exc, wipeE, Option.bind_some, List.length_cons, List.length_nil, List.getElem?_cons_zero, List.getElem?_cons_succ, List.set_cons_zero, List.set_cons_succ, List.map_cons, List.map_nil, addD, subD, cmpI, negD, modD, ap_lenL, ap_lenT, intD, int1, int2, walkD, if_true, if_false, decide_eq_true_eq, Bool.false_eq_true, reduceIte, Nat.reduceAdd, Nat.reduceSub, List.replicate_succ, List.replicate_zero, List.cons_append, List.nil_append, z3, ht]
    · cases t with
      | true => exact ⟨w.snoc ⟨hi, hj⟩, by simp, by simp; omega⟩
      | false => exact ⟨w, q1, by simp; omega⟩
  · rintro e ⟨s, j4, j5, j6, j7, j8, rfl, w, q1, q2⟩
    have : (rng 0 k0).length = k0 := by simp [rng]
    refine ⟨_, ?_, s, rfl, w, q1, by omega⟩
    simp only [ap_var, ap_c, ap_m1, ap_m2, ap_m3, ap_part, ap_nopart, ap_if, ap_isN, ap_notN, ap_list, ap_tup, ap_nil, ap_cons, ap_cb, ap_m1m, ap_chain, ap_isi, ap_mB, ap_asB, ap_and, ap_or, ap_not, ap_yes, ap_call, ap_lc, ap_noX, ap_iseq, ap_iown, ap_seq, th_nx, th_rt, th_exc, ap_skip, ap_set, ap_asg, ap_aug, ap_lm, ap_put, ap_oif, ap_ret, ap_drop, ap_raise, ap_gN, ap_gT, ap_gsN, ap_gsC, ap_app, Res.bind_ok, Res.bind_exc, Res.of_some, exOut_ok, exOut_exc, wipeE, Option.bind_some, List.length_cons, List.length_nil, List.getElem?_cons_zero, List.getElem?_cons_succ, List.set_cons_zero, List.set_cons_succ, List.map_cons, List.map_nil, addD, subD, cmpI, negD, modD, ap_lenL, ap_lenT, intD, int1, int2, walkD, if_true, if_false, decide_eq_true_eq, Bool.false_eq_true, reduceIte, Nat.reduceAdd, Nat.reduceSub, List.replicate_succ, List.replicate_zero, List.cons_append, List.nil_append]
end K67

namespace K67
open PySem PySem.Spec L2 DL
def rtD : Option Nat → D
  | none => .none
  | some k => .int k
theorem roots_ok {xs : List Int} (hx : 0 < xs.length) {at' : Int} {s : List Sy} (h0 : 0 < s.length) (hz : s.length < 1000) : ∃ rs : List (Option Nat), m__law_roots [li xs, .int at', sy s] = .ok (.list (rs.map rtD)) ∧ rs.length ≤ 9 ∧ ∀ k, some k ∈ rs → k < s.length := by
  suffices H : ∃ x, o__law_roots [some (li xs), some (.int at'), some (sy s), none, none, none] = x ∧ ∃ rs : List (Option Nat), x = .rt (.list (rs.map rtD)) ∧ rs.length ≤ 9 ∧ ∀ k, some k ∈ rs → k < s.length by
    obtain ⟨x, h0, s, h1, h2⟩ := H
    exact ⟨s, run_rt (h0.trans h1), h2⟩
  obtain ⟨v, _, hv⟩ := drawn_ok (a := at') hx
  obtain ⟨k0, hk0, hk1⟩ := mod_nat v (n := 9) (by omega)
  rw [show ((9 : Nat) : Int) = 9 from rfl] at hk0
  refine seq_ex (e := [some (li xs), some (.int at'), some (sy s), some (.list []), none, none]) ?_ ?_
  · simp only [ap_var, ap_c, ap_m1, ap_m2, ap_m3, ap_part, ap_nopart, ap_if, ap_isN, ap_notN, ap_list, ap_tup, ap_nil, ap_cons, ap_cb, ap_m1m, ap_chain, ap_isi, ap_mB, ap_asB, ap_and, ap_or, ap_not, ap_yes, ap_call, ap_lc, ap_noX, ap_iseq, ap_iown, ap_seq, th_nx, th_rt, th_exc, ap_skip, ap_set, ap_asg, ap_aug, ap_lm, ap_put, ap_oif, ap_ret, ap_drop, ap_raise, ap_gN, ap_gT, ap_gsN, ap_gsC, ap_app, Res.bind_ok, Res.bind_exc, Res.of_some, exOut_ok, exOut_exc, wipeE, Option.bind_some, List.length_cons, List.length_nil, List.getElem?_cons_zero, List.getElem?_cons_succ, List.set_cons_zero, List.set_cons_succ, List.map_cons, List.map_nil, addD, subD, cmpI, negD, modD, ap_lenL, ap_lenT, intD, int1, int2, walkD, if_true, if_false, decide_eq_true_eq, Bool.false_eq_true, reduceIte, Nat.reduceAdd, Nat.reduceSub, List.replicate_succ, List.replicate_zero, List.cons_append, List.nil_append, sz_ge (show 0 ≤ 16777216 by omega)]
  refine seq_for (fun n e => ∃ (rs : List (Option Nat)) (j4 j5 : Option D), e = [some (li xs), some (.int at'), some (sy s), some (.list (rs.map rtD)), j4, j5] ∧ rs.length = n ∧ ∀ k, some k ∈ rs → k < s.length) (rng 0 k0) ?_ ⟨[], _, _, rfl, rfl, fun _ h => nomatch h⟩ ?_ ?_
  · refine irange_ok (l := [.int k0]) ?_ (range1 (by omega))
    simp only [ap_var, ap_c, ap_m1, ap_m2, ap_m3, ap_part, ap_nopart, ap_if, ap_isN, ap_notN, ap_list, ap_tup, ap_nil, ap_cons, ap_cb, ap_m1m, ap_chain, ap_isi, ap_mB, ap_asB, ap_and, ap_or, ap_not, ap_yes, ap_call, ap_lc, ap_noX, ap_iseq, ap_iown, ap_seq, th_nx, th_rt, th_exc, ap_skip, ap_set, ap_asg, ap_aug, ap_lm, ap_put, ap_oif, ap_ret, ap_drop, ap_raise, ap_gN, ap_gT, ap_gsN, ap_gsC, ap_app, Res.bind_ok, Res.bind_exc, Res.of_some, exOut_ok, exOut_exc, wipeE, Option.bind_some, List.length_cons, List.length_nil, List.getElem?_cons_zero, List.getElem?_cons_succ, List.set_cons_zero, List.set_cons_succ, List.map_cons, List.map_nil, addD, subD, cmpI, negD, modD, ap_lenL, ap_lenT, intD, int1, int2, walkD, if_true, if_false, decide_eq_true_eq, Bool.false_eq_true, reduceIte, Nat.reduceAdd, Nat.reduceSub, List.replicate_succ, List.replicate_zero, List.cons_append, List.nil_append, hv, show (0 : Int) < 9 by decide, hk0]
  · rintro n d e hd ⟨rs, j4, j5, rfl, q1, q2⟩
    rw [rng_get] at hd
    split at hd <;> cases hd
    rename_i hn
    obtain ⟨v, _, hv⟩ := drawn_ok (a := at' + 1 + (0 + (n : Int))) hx
    have hsl : (0 : Int) < (s.length : Int) := by omega
    have k4 : CDiv v 4 := by unfold CDiv; omega
    obtain ⟨i, hi, hi2⟩ := int_in (mod_in (a := v / 4) hsl)
    have z2 : 2 ≤ sizeLine := sz_ge (by omega)
    have zz : (rs.map rtD).length < sizeLine := sz_gt (by simp; omega)
    refine ⟨_, [some (li xs), some (.int at'), some (sy s), some (.list ((rs ++ [if v % 4 = 1 then none else some i]).map rtD)), some (.int (0 + (n : Int))), some (.int v)], rfl, ?_, _, _, _, rfl, by simp [q1], ?_⟩
    · have p4 : (0 : Int) < 4 := by decide
      refine seq_nx (e := [some (li xs), some (.int at'), some (sy s), some (.list (rs.map rtD)), some (.int (0 + (n : Int))), some (.int v)]) ?_ ?_
      · simp only [ap_var, ap_c, ap_m1, ap_m2, ap_m3, ap_part, ap_nopart, ap_if, ap_isN, ap_notN, ap_list, ap_tup, ap_nil, ap_cons, ap_cb, ap_m1m, ap_chain, ap_isi, ap_mB, ap_asB, ap_and, ap_or, ap_not, ap_yes, ap_call, ap_lc, ap_noX, ap_iseq, ap_iown, ap_seq, th_nx, th_rt, th_exc, ap_skip, ap_set, ap_asg, ap_aug, ap_lm, ap_put, ap_oif, ap_ret, ap_drop, ap_raise, ap_gN, ap_gT, ap_gsN, ap_gsC, ap_app, Res.bind_ok, Res.bind_exc, Res.of_some, exOut_ok, exOut_exc, wipeE, Option.bind_some, List.length_cons, List.length_nil, List.getElem?_cons_zero, List.getElem?_cons_succ, List.set_cons_zero, List.set_cons_succ, List.map_cons, List.map_nil, addD, subD, cmpI, negD, modD, ap_lenL, ap_lenT, intD, int1, int2, walkD, if_true, if_false, decide_eq_true_eq, Bool.false_eq_true, reduceIte, Nat.reduceAdd, Nat.reduceSub, List.replicate_succ, List.replicate_zero, List.cons_append, List.nil_append, hv]
      by_cases h : v % 4 = 1
      · simp only [ap_var, ap_c, ap_m1, ap_m2, ap_m3, ap_part, ap_nopart, ap_if, ap_isN, ap_notN, ap_list, ap_tup, ap_nil, ap_cons, ap_cb, ap_m1m, ap_chain, ap_isi, ap_mB, ap_asB, ap_and, ap_or, ap_not, ap_yes, ap_call, ap_lc, ap_noX, ap_iseq, ap_iown, ap_seq, th_nx, th_rt, th_exc, ap_skip, ap_set, ap_asg, ap_aug, ap_lm, ap_put, ap_oif, ap_ret, ap_drop, ap_raise, ap_gN, ap_gT, ap_gsN, ap_gsC, ap_app, Res.bind_ok, Res.bind_exc, Res.of_some, exOut_ok, exOut_exc, wipeE, Option.bind_some, List.length_cons, List.length_nil, List.getElem?_cons_zero, List.getElem?_cons_succ, List.set_cons_zero, List.set_cons_succ, List.map_cons, List.map_nil, addD, subD, cmpI, negD, modD, ap_lenL, ap_lenT, intD, int1, int2, walkD, if_true, if_false, decide_eq_true_eq, Bool.false_eq_true, reduceIte, Nat.reduceAdd, Nat.reduceSub, List.replicate_succ, List.replicate_zero, List.cons_append, List.nil_append, fdivD, k4, hv, List.length_map, hsl, z2, p4, eqi (decide_eq_true h), lx1]
        rw [List.length_map] at zz
        simp only [ap_var, ap_c, ap_m1, ap_m2, ap_m3, ap_part, ap_nopart, ap_if, ap_isN, ap_notN, ap_list, ap_tup, ap_nil, ap_cons, ap_cb, ap_m1m, ap_chain, ap_isi, ap_mB, ap_asB, ap_and, ap_or, ap_not, ap_yes, ap_call, ap_lc, ap_noX, ap_iseq, ap_iown, ap_seq, th_nx, th_rt, th_exc, ap_skip, ap_set, ap_asg, ap_aug, ap_lm, ap_put, ap_oif, ap_ret, ap_drop, ap_raise, ap_gN, ap_gT, ap_gsN, ap_gsC, ap_app, Res.bind_ok, Res.bind_exc, Res.of_some, exOut_ok, exOut_exc, wipeE, Option.bind_some, List.length_cons, List.length_nil, List.getElem?_cons_zero, List.getElem?_cons_succ, List.set_cons_zero, List.set_cons_succ, List.map_cons, List.map_nil, addD, subD, cmpI, negD, modD, ap_lenL, ap_lenT, intD, int1, int2, walkD, if_true, if_false, decide_eq_true_eq, Bool.false_eq_true, reduceIte, Nat.reduceAdd, Nat.reduceSub, List.replicate_succ, List.replicate_zero, List.cons_append, List.nil_append, zz]
        rw [if_pos h, List.map_append]
        rfl
      · simp only [ap_var, ap_c, ap_m1, ap_m2, ap_m3, ap_part, ap_nopart, ap_if, ap_isN, ap_notN, ap_list, ap_tup, ap_nil, ap_cons, ap_cb, ap_m1m, ap_chain, ap_isi, ap_mB, ap_asB, ap_and, ap_or, ap_not, ap_yes, ap_call, ap_lc, ap_noX, ap_iseq, ap_iown, ap_seq, th_nx, th_rt, th_exc, ap_skip, ap_set, ap_asg, ap_aug, ap_lm, ap_put, ap_oif, ap_ret, ap_drop, ap_raise, ap_gN, ap_gT, ap_gsN, ap_gsC, ap_app, Res.bind_ok, Res.bind_exc, Res.of_some, exOut_ok, exOut_exc, wipeE, Option.bind_some, List.length_cons, List.length_nil, List.getElem?_cons_zero, List.getElem?_cons_succ, List.set_cons_zero, List.set_cons_succ, List.map_cons, List.map_nil, addD, subD, cmpI, negD, modD, ap_lenL, ap_lenT, intD, int1, int2, walkD, if_true, if_false, decide_eq_true_eq, Bool.false_eq_true, reduceIte, Nat.reduceAdd, Nat.reduceSub, List.replicate_succ, List.replicate_zero, List.cons_append, List.nil_append, fdivD, k4, hv, List.length_map, hsl, z2, p4, eqi (decide_eq_false h), lx0]
        rw [List.length_map] at zz
        simp only [ap_var, ap_c, ap_m1, ap_m2, ap_m3, ap_part, ap_nopart, ap_if, ap_isN, ap_notN, ap_list, ap_tup, ap_nil, ap_cons, ap_cb, ap_m1m, ap_chain, ap_isi, ap_mB, ap_asB, ap_and, ap_or, ap_not, ap_yes, ap_call, ap_lc, ap_noX, ap_iseq, ap_iown, ap_seq, th_nx, th_rt, th_exc, ap_skip, ap_set, ap_asg, ap_aug, ap_lm, ap_put, ap_oif, ap_ret, ap_drop, ap_raise, ap_gN, ap_gT, ap_gsN, ap_gsC, ap_app, Res.bind_ok, Res.bind_exc, Res.of_some, exOut_ok, exOut_exc, wipeE, Option.bind_some, List.length_cons, List.length_nil, List.getElem?_cons_zero, List.getElem?_cons_succ, List.set_cons_zero, List.set_cons_succ, List.map_cons, List.map_nil, addD, subD, cmpI, negD, modD, ap_lenL, ap_lenT, intD, int1, int2, walkD, if_true, if_false, decide_eq_true_eq, Bool.false_eq_true, reduceIte, Nat.reduceAdd, Nat.reduceSub, List.replicate_succ, List.replicate_zero, List.cons_append, List.nil_append, zz]
        rw [if_neg h, List.map_append, hi]
        rfl
    · intro k hk
      rcases List.mem_append.mp hk with hk | hk
      · exact q2 k hk
      · by_cases h : v % 4 = 1
        · rw [if_pos h] at hk; simp at hk
        · rw [if_neg h] at hk; simp at hk; omega
  · rintro e ⟨rs, j4, j5, rfl, q1, q2⟩
    have : (rng 0 k0).length = k0 := by simp [rng]
    refine ⟨_, ?_, rs, rfl, by omega, q2⟩
    simp only [ap_var, ap_c, ap_m1, ap_m2, ap_m3, ap_part, ap_nopart, ap_if, ap_isN, ap_notN, ap_list, ap_tup, ap_nil, ap_cons, ap_cb, ap_m1m, ap_chain, ap_isi, ap_mB, ap_asB, ap_and, ap_or, ap_not, ap_yes, ap_call, ap_lc, ap_noX, ap_iseq, ap_iown, ap_seq, th_nx, th_rt, th_exc, ap_skip, ap_set, ap_asg, ap_aug, ap_lm, ap_put, ap_oif, ap_ret, ap_drop, ap_raise, ap_gN, ap_gT, ap_gsN, ap_gsC, ap_app, Res.bind_ok, Res.bind_exc, Res.of_some, exOut_ok, exOut_exc, wipeE, Option.bind_some, List.length_cons, List.length_nil, List.getElem?_cons_zero, List.getElem?_cons_succ, List.set_cons_zero, List.set_cons_succ, List.map_cons, List.map_nil, addD, subD, cmpI, negD, modD, ap_lenL, ap_lenT, intD, int1, int2, walkD, if_true, if_false, decide_eq_true_eq, Bool.false_eq_true, reduceIte, Nat.reduceAdd, Nat.reduceSub, List.replicate_succ, List.replicate_zero, List.cons_append, List.nil_append]
theorem lsizes_ok {s : List Sy} (w : WF s) (hz : s.length < 1000) : m__law_sizes [sy s] = .ok (szl s) := by
  suffices H : ∃ x, o__law_sizes [some (sy s), none, none, none] = x ∧ x = .rt (szl s) by
    obtain ⟨x, h1, rfl⟩ := H
    exact run_rt h1
  refine seq_ex (e := [some (sy s), some (szl []), none, none]) ?_ ?_
  · simp only [ap_var, ap_c, ap_m1, ap_m2, ap_m3, ap_part, ap_nopart, ap_if, ap_isN, ap_notN, ap_list, ap_tup, ap_nil, ap_cons, ap_cb, ap_m1m, ap_chain, ap_isi, ap_mB, ap_asB, ap_and, ap_or, ap_not, ap_yes, ap_call, ap_lc, ap_noX, ap_iseq, ap_iown, ap_seq, th_nx, th_rt, th_exc, ap_skip, ap_set, ap_asg, ap_aug, ap_lm, ap_put, ap_oif, ap_ret, ap_drop, ap_raise, ap_gN, ap_gT, ap_gsN, ap_gsC, ap_app, Res.bind_ok, Res.bind_exc, Res.of_some, exOut_ok, exOut_exc, wipeE, Option.bind_some, List.length_cons, List.length_nil, List.getElem?_cons_zero, List.getElem?_cons_succ, List.set_cons_zero, List.set_cons_succ, List.map_cons, List.map_nil, addD, subD, cmpI, negD, modD, ap_lenL, ap_lenT, intD, int1, int2, walkD, if_true, if_false, decide_eq_true_eq, Bool.false_eq_true, reduceIte, Nat.reduceAdd, Nat.reduceSub, List.replicate_succ, List.replicate_zero, List.cons_append, List.nil_append, sz_ge (show 0 ≤ 16777216 by omega)]
    rfl
  refine seq_for (fun n e => ∃ j, e = [some (sy s), some (szl (s.take n)), j, none]) (s.map Sy.d) rfl ⟨none, rfl⟩ ?_ ?_
  · rintro n d e hd ⟨j, rfl⟩
    obtain ⟨x, hx, rfl⟩ := map_get hd
    have hn := lt_of_get hx
    refine ⟨_, [some (sy s), some (szl (s.take (n + 1))), some x.d, none], rfl, ?_, _, rfl⟩
    have hz2 : ((txs (s.take n)).map fun t => PyData.int t.length).length < sizeLine := sz_gt (by simp [txs_length]; omega)
    have z2 : 2 ≤ sizeLine := sz_ge (by omega)
    have z0 : 0 ≤ sizeLine := sz_ge (by omega)
    rw [← szl_snoc hx]
    cases x with
    | L c =>
      have hs : slD (Sy.L c).d (some 1) none = some (.tuple [.str (txS [c])]) := rfl
      have hl : lcG (gN 3) (mB (mIsi "int" (mVar 3))) (m2 ixD (mVar 1) (mVar 3)) [.str (txS [c])] [some (sy s), some (szl (s.take n)), some (Sy.L c).d, none] = .ok [] := by
        simp only [lcG, ap_var, ap_c, ap_m1, ap_m2, ap_m3, ap_part, ap_nopart, ap_if, ap_isN, ap_notN, ap_list, ap_tup, ap_nil, ap_cons, ap_cb, ap_m1m, ap_chain, ap_isi, ap_mB, ap_asB, ap_and, ap_or, ap_not, ap_yes, ap_call, ap_lc, ap_noX, ap_iseq, ap_iown, ap_seq, th_nx, th_rt, th_exc, ap_skip, ap_set, ap_asg, ap_aug, ap_lm, ap_put, ap_oif, ap_ret, ap_drop, ap_raise, ap_gN, ap_gT, ap_gsN, ap_gsC, ap_app, Res.bind_ok, Res.bind_exc, Res.of_some, exOut_ok, exOut_exc, wipeE, Option.bind_some, List.length_cons, List.length_nil, List.getElem?_cons_zero, List.getElem?_cons_succ, List.set_cons_zero, List.set_cons_succ, List.map_cons, List.map_nil, addD, subD, cmpI, negD, modD, ap_lenL, ap_lenT, intD, int1, int2, walkD, if_true, if_false, decide_eq_true_eq, Bool.false_eq_true, reduceIte, Nat.reduceAdd, Nat.reduceSub, List.replicate_succ, List.replicate_zero, List.cons_append, List.nil_append, isi_str]
      simp only [ap_var, ap_c, ap_m1, ap_m2, ap_m3, ap_part, ap_nopart, ap_if, ap_isN, ap_notN, ap_list, ap_tup, ap_nil, ap_cons, ap_cb, ap_m1m, ap_chain, ap_isi, ap_mB, ap_asB, ap_and, ap_or, ap_not, ap_yes, ap_call, ap_lc, ap_noX, ap_iseq, ap_iown, ap_seq, th_nx, th_rt, th_exc, ap_skip, ap_set, ap_asg, ap_aug, ap_lm, ap_put, ap_oif, ap_ret, ap_drop, ap_raise, ap_gN, ap_gT, ap_gsN, ap_gsC, ap_app, Res.bind_ok, Res.bind_exc, Res.of_some, exOut_ok, exOut_exc, wipeE, Option.bind_some, List.length_cons, List.length_nil, List.getElem?_cons_zero, List.getElem?_cons_succ, List.set_cons_zero, List.set_cons_succ, List.map_cons, List.map_nil, addD, subD, cmpI, negD, modD, ap_lenL, ap_lenT, intD, int1, int2, walkD, if_true, if_false, decide_eq_true_eq, Bool.false_eq_true, reduceIte, Nat.reduceAdd, Nat.reduceSub, List.replicate_succ, List.replicate_zero, List.cons_append, List.nil_append, hs, hl, z0, sumD, intsOf, Option.map_some, d_L0, str_lp, lx0, hz2, tx_L hx]
      simp only [sumD, intsOf, Option.map_some, ap_var, ap_c, ap_m1, ap_m2, ap_m3, ap_part, ap_nopart, ap_if, ap_isN, ap_notN, ap_list, ap_tup, ap_nil, ap_cons, ap_cb, ap_m1m, ap_chain, ap_isi, ap_mB, ap_asB, ap_and, ap_or, ap_not, ap_yes, ap_call, ap_lc, ap_noX, ap_iseq, ap_iown, ap_seq, th_nx, th_rt, th_exc, ap_skip, ap_set, ap_asg, ap_aug, ap_lm, ap_put, ap_oif, ap_ret, ap_drop, ap_raise, ap_gN, ap_gT, ap_gsN, ap_gsC, ap_app, Res.bind_ok, Res.bind_exc, Res.of_some, exOut_ok, exOut_exc, wipeE, Option.bind_some, List.length_cons, List.length_nil, List.getElem?_cons_zero, List.getElem?_cons_succ, List.set_cons_zero, List.set_cons_succ, List.map_cons, List.map_nil, addD, subD, cmpI, negD, modD, ap_lenL, ap_lenT, intD, int1, int2, walkD, if_true, if_false, decide_eq_true_eq, Bool.false_eq_true, reduceIte, Nat.reduceAdd, Nat.reduceSub, List.replicate_succ, List.replicate_zero, List.cons_append, List.nil_append, z2, lx0, hz2]
      rfl
    | P i j =>
      obtain ⟨hi, hj⟩ := w.pair n i j hx
      have h1 := szl_get (s := s.take n) (k := i) (by simp; omega)
      have h2 := szl_get (s := s.take n) (k := j) (by simp; omega)
      rw [tx_take hi (by omega)] at h1
      rw [tx_take hj (by omega)] at h2
      have hs : slD (Sy.P i j).d (some 1) none = some (.tuple [.int i, .int j]) := rfl
      have hl : lcG (gN 3) (mB (mIsi "int" (mVar 3))) (m2 ixD (mVar 1) (mVar 3)) [.int i, .int j] [some (sy s), some (szl (s.take n)), some (Sy.P i j).d, none] = .ok [.int (tx s i).length, .int (tx s j).length] := by
        simp only [lcG, ap_var, ap_c, ap_m1, ap_m2, ap_m3, ap_part, ap_nopart, ap_if, ap_isN, ap_notN, ap_list, ap_tup, ap_nil, ap_cons, ap_cb, ap_m1m, ap_chain, ap_isi, ap_mB, ap_asB, ap_and, ap_or, ap_not, ap_yes, ap_call, ap_lc, ap_noX, ap_iseq, ap_iown, ap_seq, th_nx, th_rt, th_exc, ap_skip, ap_set, ap_asg, ap_aug, ap_lm, ap_put, ap_oif, ap_ret, ap_drop, ap_raise, ap_gN, ap_gT, ap_gsN, ap_gsC, ap_app, Res.bind_ok, Res.bind_exc, Res.of_some, exOut_ok, exOut_exc, wipeE, Option.bind_some, List.length_cons, List.length_nil, List.getElem?_cons_zero, List.getElem?_cons_succ, List.set_cons_zero, List.set_cons_succ, List.map_cons, List.map_nil, addD, subD, cmpI, negD, modD, ap_lenL, ap_lenT, intD, int1, int2, walkD, if_true, if_false, decide_eq_true_eq, Bool.false_eq_true, reduceIte, Nat.reduceAdd, Nat.reduceSub, List.replicate_succ, List.replicate_zero, List.cons_append, List.nil_append, isi_int, h1, h2]
      have hsum : sumD [.list [.int (tx s i).length, .int (tx s j).length]] = some (.int ((tx s i).length + (tx s j).length)) := by
        simp [sumD, intsOf]
      simp only [ap_var, ap_c, ap_m1, ap_m2, ap_m3, ap_part, ap_nopart, ap_if, ap_isN, ap_notN, ap_list, ap_tup, ap_nil, ap_cons, ap_cb, ap_m1m, ap_chain, ap_isi, ap_mB, ap_asB, ap_and, ap_or, ap_not, ap_yes, ap_call, ap_lc, ap_noX, ap_iseq, ap_iown, ap_seq, th_nx, th_rt, th_exc, ap_skip, ap_set, ap_asg, ap_aug, ap_lm, ap_put, ap_oif, ap_ret, ap_drop, ap_raise, ap_gN, ap_gT, ap_gsN, ap_gsC, ap_app, Res.bind_ok, Res.bind_exc, Res.of_some, exOut_ok, exOut_exc, wipeE, Option.bind_some, List.length_cons, List.length_nil, List.getElem?_cons_zero, List.getElem?_cons_succ, List.set_cons_zero, List.set_cons_succ, List.map_cons, List.map_nil, addD, subD, cmpI, negD, modD, ap_lenL, ap_lenT, intD, int1, int2, walkD, if_true, if_false, decide_eq_true_eq, Bool.false_eq_true, reduceIte, Nat.reduceAdd, Nat.reduceSub, List.replicate_succ, List.replicate_zero, List.cons_append, List.nil_append, hs, hl, hsum, z2, d_P0, str_pq, lx1, hz2, tx_P w hx]
      simp
  · rintro e ⟨j, rfl⟩
    refine ⟨_, ?_, rfl⟩
    simp only [ap_var, ap_c, ap_m1, ap_m2, ap_m3, ap_part, ap_nopart, ap_if, ap_isN, ap_notN, ap_list, ap_tup, ap_nil, ap_cons, ap_cb, ap_m1m, ap_chain, ap_isi, ap_mB, ap_asB, ap_and, ap_or, ap_not, ap_yes, ap_call, ap_lc, ap_noX, ap_iseq, ap_iown, ap_seq, th_nx, th_rt, th_exc, ap_skip, ap_set, ap_asg, ap_aug, ap_lm, ap_put, ap_oif, ap_ret, ap_drop, ap_raise, ap_gN, ap_gT, ap_gsN, ap_gsC, ap_app, Res.bind_ok, Res.bind_exc, Res.of_some, exOut_ok, exOut_exc, wipeE, Option.bind_some, List.length_cons, List.length_nil, List.getElem?_cons_zero, List.getElem?_cons_succ, List.set_cons_zero, List.set_cons_succ, List.map_cons, List.map_nil, addD, subD, cmpI, negD, modD, ap_lenL, ap_lenT, intD, int1, int2, walkD, if_true, if_false, decide_eq_true_eq, Bool.false_eq_true, reduceIte, Nat.reduceAdd, Nat.reduceSub, List.replicate_succ, List.replicate_zero, List.cons_append, List.nil_append]
    simp
def tD (B : Nat) (t : List Nat) : D := if t.length ≤ B then .str (txS t) else .none
abbrev tl (B : Nat) (s : List Sy) : D := .list ((txs s).map (tD B))
theorem tl_get {B : Nat} {s : List Sy} {k : Nat} (h : k < s.length) : ixD (tl B s) (.int (k : Int)) = some (tD B (tx s k)) := ix_nat (by rw [List.getElem?_map, tx_get h]; rfl)
theorem tl_snoc {B : Nat} {s : List Sy} {k : Nat} {x : Sy} (h : s[k]? = some x) : (.list ((txs (s.take k)).map (tD B) ++ [tD B (tx s k)]) : D) = tl B (s.take (k + 1)) := by
  rw [tl, take_snoc h, txs_snoc, tx_at h]; simp
theorem ltexts_ok {s : List Sy} (w : WF s) (hz : s.length < 1000) {B : Nat} (hB : 1 ≤ B ∧ B ≤ 4000) : m__law_texts [sy s, .int B] = .ok (tl B s) := by
  suffices H : ∃ x, o__law_texts [some (sy s), some (.int B), none, none, none, none] = x ∧ x = .rt (tl B s) by
    obtain ⟨x, h1, rfl⟩ := H
    exact run_rt h1
  refine seq_ex (e := [some (sy s), some (.int B), some (tl B []), none, none, none]) ?_ ?_
  · simp only [ap_var, ap_c, ap_m1, ap_m2, ap_m3, ap_part, ap_nopart, ap_if, ap_isN, ap_notN, ap_list, ap_tup, ap_nil, ap_cons, ap_cb, ap_m1m, ap_chain, ap_isi, ap_mB, ap_asB, ap_and, ap_or, ap_not, ap_yes, ap_call, ap_lc, ap_noX, ap_iseq, ap_iown, ap_seq, th_nx, th_rt, th_exc, ap_skip, ap_set, ap_asg, ap_aug, ap_lm, ap_put, ap_oif, ap_ret, ap_drop, ap_raise, ap_gN, ap_gT, ap_gsN, ap_gsC, ap_app, Res.bind_ok, Res.bind_exc, Res.of_some, exOut_ok, exOut_exc, wipeE, Option.bind_some, List.length_cons, List.length_nil, List.getElem?_cons_zero, List.getElem?_cons_succ, List.set_cons_zero, List.set_cons_succ, List.map_cons, List.map_nil, addD, subD, cmpI, negD, modD, ap_lenL, ap_lenT, intD, int1, int2, walkD, if_true, if_false, decide_eq_true_eq, Bool.false_eq_true, reduceIte, Nat.reduceAdd, Nat.reduceSub, List.replicate_succ, List.replicate_zero, List.cons_append, List.nil_append, sz_ge (show 0 ≤ 16777216 by omega)]
    rfl
  refine seq_ex (e := [some (sy s), some (.int B), some (tl B []), some (szl s), none, none]) ?_ ?_
  · simp only [ap_var, ap_c, ap_m1, ap_m2, ap_m3, ap_part, ap_nopart, ap_if, ap_isN, ap_notN, ap_list, ap_tup, ap_nil, ap_cons, ap_cb, ap_m1m, ap_chain, ap_isi, ap_mB, ap_asB, ap_and, ap_or, ap_not, ap_yes, ap_call, ap_lc, ap_noX, ap_iseq, ap_iown, ap_seq, th_nx, th_rt, th_exc, ap_skip, ap_set, ap_asg, ap_aug, ap_lm, ap_put, ap_oif, ap_ret, ap_drop, ap_raise, ap_gN, ap_gT, ap_gsN, ap_gsC, ap_app, Res.bind_ok, Res.bind_exc, Res.of_some, exOut_ok, exOut_exc, wipeE, Option.bind_some, List.length_cons, List.length_nil, List.getElem?_cons_zero, List.getElem?_cons_succ, List.set_cons_zero, List.set_cons_succ, List.map_cons, List.map_nil, addD, subD, cmpI, negD, modD, ap_lenL, ap_lenT, intD, int1, int2, walkD, if_true, if_false, decide_eq_true_eq, Bool.false_eq_true, reduceIte, Nat.reduceAdd, Nat.reduceSub, List.replicate_succ, List.replicate_zero, List.cons_append, List.nil_append, lsizes_ok w hz]
  refine seq_for (fun n e => ∃ j4 j5, e = [some (sy s), some (.int B), some (tl B (s.take n)), some (szl s), j4, j5]) (rng 0 s.length) ?_ ⟨none, none, rfl⟩ ?_ ?_
  · refine irange_ok (l := [.int s.length]) ?_ (range1 (by omega))
    simp only [ap_var, ap_c, ap_m1, ap_m2, ap_m3, ap_part, ap_nopart, ap_if, ap_isN, ap_notN, ap_list, ap_tup, ap_nil, ap_cons, ap_cb, ap_m1m, ap_chain, ap_isi, ap_mB, ap_asB, ap_and, ap_or, ap_not, ap_yes, ap_call, ap_lc, ap_noX, ap_iseq, ap_iown, ap_seq, th_nx, th_rt, th_exc, ap_skip, ap_set, ap_asg, ap_aug, ap_lm, ap_put, ap_oif, ap_ret, ap_drop, ap_raise, ap_gN, ap_gT, ap_gsN, ap_gsC, ap_app, Res.bind_ok, Res.bind_exc, Res.of_some, exOut_ok, exOut_exc, wipeE, Option.bind_some, List.length_cons, List.length_nil, List.getElem?_cons_zero, List.getElem?_cons_succ, List.set_cons_zero, List.set_cons_succ, List.map_cons, List.map_nil, addD, subD, cmpI, negD, modD, ap_lenL, ap_lenT, intD, int1, int2, walkD, if_true, if_false, decide_eq_true_eq, Bool.false_eq_true, reduceIte, Nat.reduceAdd, Nat.reduceSub, List.replicate_succ, List.replicate_zero, List.cons_append, List.nil_append, List.length_map]
  · rintro n d e hd ⟨j4, j5, rfl⟩
    rw [rng_get] at hd
    split at hd <;> cases hd
    rename_i hn
    rw [Int.zero_add]
    obtain ⟨x, hx⟩ : ∃ x, s[n]? = some x := ⟨_, List.getElem?_eq_getElem hn⟩
    have gx := sy_get hx
    have gz := szl_get hn
    have hz2 : ((txs (s.take n)).map (tD B)).length < sizeLine := sz_gt (by simp [txs_length]; omega)
    refine ⟨_, [some (sy s), some (.int B), some (tl B (s.take (n + 1))), some (szl s), some (.int (n : Int)), some (tD B (tx s n))], rfl, ?_, _, _, rfl⟩
    rw [← tl_snoc (B := B) hx]
    refine seq_nx (e := [some (sy s), some (.int B), some (tl B (s.take n)), some (szl s), some (.int (n : Int)), some .none]) ?_ ?_
    · simp only [ap_var, ap_c, ap_m1, ap_m2, ap_m3, ap_part, ap_nopart, ap_if, ap_isN, ap_notN, ap_list, ap_tup, ap_nil, ap_cons, ap_cb, ap_m1m, ap_chain, ap_isi, ap_mB, ap_asB, ap_and, ap_or, ap_not, ap_yes, ap_call, ap_lc, ap_noX, ap_iseq, ap_iown, ap_seq, th_nx, th_rt, th_exc, ap_skip, ap_set, ap_asg, ap_aug, ap_lm, ap_put, ap_oif, ap_ret, ap_drop, ap_raise, ap_gN, ap_gT, ap_gsN, ap_gsC, ap_app, Res.bind_ok, Res.bind_exc, Res.of_some, exOut_ok, exOut_exc, wipeE, Option.bind_some, List.length_cons, List.length_nil, List.getElem?_cons_zero, List.getElem?_cons_succ, List.set_cons_zero, List.set_cons_succ, List.map_cons, List.map_nil, addD, subD, cmpI, negD, modD, ap_lenL, ap_lenT, intD, int1, int2, walkD, if_true, if_false, decide_eq_true_eq, Bool.false_eq_true, reduceIte, Nat.reduceAdd, Nat.reduceSub, List.replicate_succ, List.replicate_zero, List.cons_append, List.nil_append]
    refine seq_nx (e := [some (sy s), some (.int B), some (tl B (s.take n)), some (szl s), some (.int (n : Int)), some (tD B (tx s n))]) ?_ ?_
    · cases x with
      | L c =>
        have hc1 : tD B [c] = .str (txS [c]) := if_pos hB.1
        simp only [ap_var, ap_c, ap_m1, ap_m2, ap_m3, ap_part, ap_nopart, ap_if, ap_isN, ap_notN, ap_list, ap_tup, ap_nil, ap_cons, ap_cb, ap_m1m, ap_chain, ap_isi, ap_mB, ap_asB, ap_and, ap_or, ap_not, ap_yes, ap_call, ap_lc, ap_noX, ap_iseq, ap_iown, ap_seq, th_nx, th_rt, th_exc, ap_skip, ap_set, ap_asg, ap_aug, ap_lm, ap_put, ap_oif, ap_ret, ap_drop, ap_raise, ap_gN, ap_gT, ap_gsN, ap_gsC, ap_app, Res.bind_ok, Res.bind_exc, Res.of_some, exOut_ok, exOut_exc, wipeE, Option.bind_some, List.length_cons, List.length_nil, List.getElem?_cons_zero, List.getElem?_cons_succ, List.set_cons_zero, List.set_cons_succ, List.map_cons, List.map_nil, addD, subD, cmpI, negD, modD, ap_lenL, ap_lenT, intD, int1, int2, walkD, if_true, if_false, decide_eq_true_eq, Bool.false_eq_true, reduceIte, Nat.reduceAdd, Nat.reduceSub, List.replicate_succ, List.replicate_zero, List.cons_append, List.nil_append, gx, d_L0, d_L1, str_pl, tx_L hx, hc1]
      | P i j =>
        obtain ⟨hi, hj⟩ := w.pair n i j hx
        have h1 := tl_get (B := B) (s := s.take n) (k := i) (by simp; omega)
        have h2 := tl_get (B := B) (s := s.take n) (k := j) (by simp; omega)
        rw [tx_take hi (by omega)] at h1
        rw [tx_take hj (by omega)] at h2
        have hl : (tx s n).length = (tx s i).length + (tx s j).length := by rw [tx_P w hx, List.length_append]
        by_cases hb : (tx s n).length ≤ B
        · have hb' : ((tx s n).length : Int) ≤ (B : Int) := by omega
          have t1 : tD B (tx s i) = .str (txS (tx s i)) := if_pos (by omega)
          have t2 : tD B (tx s j) = .str (txS (tx s j)) := if_pos (by omega)
          have t3 : tD B (tx s n) = .str (txS (tx s i ++ tx s j)) := by rw [tD, if_pos hb, tx_P w hx]
          rw [t1] at h1
          rw [t2] at h2
          have ha : addD (.str (txS (tx s i))) (.str (txS (tx s j))) = some (.str (txS (tx s i ++ tx s j))) := by
            rw [add_str (sz_ge (by rw [txS_length, txS_length]; omega)), txS_append]
          rw [t3]
          simp only [ap_oif, ap_set, ap_mB, ap_m2, ap_var, ap_c, Res.bind_ok, Res.of_some, exOut_ok, List.getElem?_cons_zero, List.getElem?_cons_succ, List.set_cons_zero, List.set_cons_succ, gx, d_P0, d_P1, d_P2, str_pp, ap_asB, gz, cmpI, hb', decide_true, if_true, Bool.false_eq_true, if_false, h1, h2, ha]
        · have hb' : ¬ ((tx s n).length : Int) ≤ (B : Int) := by omega
          have t3 : tD B (tx s n) = .none := if_neg hb
          rw [t3]
          simp only [ap_var, ap_c, ap_m1, ap_m2, ap_m3, ap_part, ap_nopart, ap_if, ap_isN, ap_notN, ap_list, ap_tup, ap_nil, ap_cons, ap_cb, ap_m1m, ap_chain, ap_isi, ap_mB, ap_asB, ap_and, ap_or, ap_not, ap_yes, ap_call, ap_lc, ap_noX, ap_iseq, ap_iown, ap_seq, th_nx, th_rt, th_exc, ap_skip, ap_set, ap_asg, ap_aug, ap_lm, ap_put, ap_oif, ap_ret, ap_drop, ap_raise, ap_gN, ap_gT, ap_gsN, ap_gsC, ap_app, Res.bind_ok, Res.bind_exc, Res.of_some, exOut_ok, exOut_exc, wipeE, Option.bind_some, List.length_cons, List.length_nil, List.getElem?_cons_zero, List.getElem?_cons_succ, List.set_cons_zero, List.set_cons_succ, List.map_cons, List.map_nil, addD, subD, cmpI, negD, modD, ap_lenL, ap_lenT, intD, int1, int2, walkD, if_true, if_false, decide_eq_true_eq, Bool.false_eq_true, reduceIte, Nat.reduceAdd, Nat.reduceSub, List.replicate_succ, List.replicate_zero, List.cons_append, List.nil_append, gx, d_P0, str_pp, gz, hb', decide_false]
    · simp only [ap_var, ap_c, ap_m1, ap_m2, ap_m3, ap_part, ap_nopart, ap_if, ap_isN, ap_notN, ap_list, ap_tup, ap_nil, ap_cons, ap_cb, ap_m1m, ap_chain, ap_isi, ap_mB, ap_asB, ap_and, ap_or, ap_not, ap_yes, ap_call, ap_lc, ap_noX, ap_iseq, ap_iown, ap_seq, th_nx, th_rt, th_exc, ap_skip, ap_set, ap_asg, ap_aug, ap_lm, ap_put, ap_oif, ap_ret, ap_drop, ap_raise, ap_gN, ap_gT, ap_gsN, ap_gsC, ap_app, Res.bind_ok, Res.bind_exc, Res.of_some, exOut_ok, exOut_exc, wipeE, Option.bind_some, List.length_cons, List.length_nil, List.getElem?_cons_zero, List.getElem?_cons_succ, List.set_cons_zero, List.set_cons_succ, List.map_cons, List.map_nil, addD, subD, cmpI, negD, modD, ap_lenL, ap_lenT, intD, int1, int2, walkD, if_true, if_false, decide_eq_true_eq, Bool.false_eq_true, reduceIte, Nat.reduceAdd, Nat.reduceSub, List.replicate_succ, List.replicate_zero, List.cons_append, List.nil_append, hz2]
  · rintro e ⟨j4, j5, rfl⟩
    refine ⟨_, ?_, rfl⟩
    simp only [ap_var, ap_c, ap_m1, ap_m2, ap_m3, ap_part, ap_nopart, ap_if, ap_isN, ap_notN, ap_list, ap_tup, ap_nil, ap_cons, ap_cb, ap_m1m, ap_chain, ap_isi, ap_mB, ap_asB, ap_and, ap_or, ap_not, ap_yes, ap_call, ap_lc, ap_noX, ap_iseq, ap_iown, ap_seq, th_nx, th_rt, th_exc, ap_skip, ap_set, ap_asg, ap_aug, ap_lm, ap_put, ap_oif, ap_ret, ap_drop, ap_raise, ap_gN, ap_gT, ap_gsN, ap_gsC, ap_app, Res.bind_ok, Res.bind_exc, Res.of_some, exOut_ok, exOut_exc, wipeE, Option.bind_some, List.length_cons, List.length_nil, List.getElem?_cons_zero, List.getElem?_cons_succ, List.set_cons_zero, List.set_cons_succ, List.map_cons, List.map_nil, addD, subD, cmpI, negD, modD, ap_lenL, ap_lenT, intD, int1, int2, walkD, if_true, if_false, decide_eq_true_eq, Bool.false_eq_true, reduceIte, Nat.reduceAdd, Nat.reduceSub, List.replicate_succ, List.replicate_zero, List.cons_append, List.nil_append]
    simp [rng]
end K67

namespace K67
open PySem PySem.Spec L2 DL
theorem range_i {j : Int} {n : Nat} (h : small62 j) (hn : j.toNat = n) : rangeD [.int j] = .ok (rng 0 n) := by
  simp [rangeD, h, hn]
theorem max_sub (a b : Nat) : (if ((a : Int) - (b : Int)) > 0 then ((a : Int) - (b : Int)) else 0) = ((a - b : Nat) : Int) := by split <;> omega
theorem cut_neg {α : Type} (xs : List α) {n : Nat} (h : 0 < n) : cut xs (some (-(n : Int))) none = xs.drop (xs.length - n) := by
  have e : (-(n : Int)) < 0 := by omega
  simp only [cut, HT.sIx, if_pos e]
  rw [show (-(n : Int) + (xs.length : Int)).toNat = xs.length - n by omega, List.take_of_length_le (by simp)]
theorem sl_neg {t : List Nat} {n : Nat} (hn : 0 < n) (h : t.length ≤ sizeLine) : slD (.str (txS t)) (some (-(n : Int))) none = some (.str (txS (lst n t))) := by
  have h' : (txS t).length ≤ sizeLine := by rw [txS_length]; exact h
  show (if (txS t).length ≤ sizeLine then some (PyData.str ⟨(cut (txS t).cps.toList (some (-(n : Int))) none).toArray⟩) else none) = _
  rw [if_pos h', tx_list, cut_neg _ hn]
  rfl
theorem addS {x y : List Nat} (h : x.length + y.length ≤ 16777216) : addD (.str (txS x)) (.str (txS y)) = some (.str (txS (x ++ y))) := by
  rw [add_str (sz_ge (by rw [txS_length, txS_length]; exact h)), txS_append]
theorem scan_ok {t w : List Nat} (ht : t.length ≤ 5000) (hw : w.length ≤ 1000) : m__law_scan [.str (txS t), .str (txS w)] = .ok (.int (KM.occ w t)) := by
  refine run_rt ?_
  show o__law_scan [some (.str (txS t)), some (.str (txS w)), none] = _
  have lt := ap_lenS (xs := t) (sz_ge (by omega))
  have lw := ap_lenS (xs := w) (sz_ge (by omega))
  obtain ⟨ds, h1, h2⟩ := lc_cnt (mi := iRange (aCons (m2 addD (m2 subD (mCB lenD (aCons (mVar 0) aNil)) (mCB lenD (aCons (mVar 1) aNil))) (mC (.int 1))) aNil)) (v := 2) (nc := mB (m2 eqD (m3 slD (mVar 0) (mPart (mVar 2)) (mPart (m2 addD (mVar 2) (mCB lenD (aCons (mVar 1) aNil))))) (mVar 1))) (vs := [2]) (env := [some (.str (txS t)), some (.str (txS w)), none]) (n := t.length + 1 - w.length) (wq w t)
    (irange_ok (l := [.int ((t.length : Int) - (w.length : Int) + 1)]) (by simp only [ap_var, ap_c, ap_m1, ap_m2, ap_m3, ap_part, ap_nopart, ap_if, ap_isN, ap_notN, ap_list, ap_tup, ap_nil, ap_cons, ap_cb, ap_m1m, ap_chain, ap_isi, ap_mB, ap_asB, ap_and, ap_or, ap_not, ap_yes, ap_call, ap_lc, ap_noX, ap_iseq, ap_iown, ap_seq, th_nx, th_rt, th_exc, ap_skip, ap_set, ap_asg, ap_aug, ap_lm, ap_put, ap_oif, ap_ret, ap_drop, ap_raise, ap_gN, ap_gT, ap_gsN, ap_gsC, ap_app, Res.bind_ok, Res.bind_exc, Res.of_some, exOut_ok, exOut_exc, wipeE, Option.bind_some, List.length_cons, List.length_nil, List.getElem?_cons_zero, List.getElem?_cons_succ, List.set_cons_zero, List.set_cons_succ, List.map_cons, List.map_nil, add_ii, sub_ii, cmpI, negD, modD, ap_lenL, ap_lenT, intD, int1, int2, walkD, if_true, if_false, decide_eq_true_eq, Bool.false_eq_true, reduceIte, Nat.reduceAdd, Nat.reduceSub, List.replicate_succ, List.replicate_zero, List.cons_append, List.nil_append, lt, lw]) (range_i (by unfold small62; omega) (by omega))) (by omega) (by show 2 < 3; omega) (fun k hk => by
      have hs := sl_both (t := t) (a := k) (b := k + w.length) (sz_ge (by omega)) (by omega)
      rw [Int.natCast_add, show k + w.length - k = w.length by omega] at hs
      simp only [ap_var, ap_c, ap_m1, ap_m2, ap_m3, ap_part, ap_nopart, ap_if, ap_isN, ap_notN, ap_list, ap_tup, ap_nil, ap_cons, ap_cb, ap_m1m, ap_chain, ap_isi, ap_mB, ap_asB, ap_and, ap_or, ap_not, ap_yes, ap_call, ap_lc, ap_noX, ap_iseq, ap_iown, ap_seq, th_nx, th_rt, th_exc, ap_skip, ap_set, ap_asg, ap_aug, ap_lm, ap_put, ap_oif, ap_ret, ap_drop, ap_raise, ap_gN, ap_gT, ap_gsN, ap_gsC, ap_app, Res.bind_ok, Res.bind_exc, Res.of_some, exOut_ok, exOut_exc, wipeE, Option.bind_some, List.length_cons, List.length_nil, List.getElem?_cons_zero, List.getElem?_cons_succ, List.set_cons_zero, List.set_cons_succ, List.map_cons, List.map_nil, add_ii, sub_ii, cmpI, negD, modD, ap_lenL, ap_lenT, intD, int1, int2, walkD, if_true, if_false, decide_eq_true_eq, Bool.false_eq_true, reduceIte, Nat.reduceAdd, Nat.reduceSub, List.replicate_succ, List.replicate_zero, List.cons_append, List.nil_append, lw, hs, eq_txt])
  unfold o__law_scan
  simp only [ap_ret, ap_cb, ap_cons, ap_nil, h1, Res.bind_ok, ap_lenL, Res.of_some, h2, exOut_ok]
  rfl
/-! ### edges -/
abbrev hdl (s : List Sy) : D := .list ((txs s).map fun t => .str (txS (t.take 12)))
abbrev tll (s : List Sy) : D := .list ((txs s).map fun t => .str (txS (lst 12 t)))
theorem hd_get {s : List Sy} {k : Nat} (h : k < s.length) : ixD (hdl s) (.int (k : Int)) = some (.str (txS ((tx s k).take 12))) := ix_nat (by rw [List.getElem?_map, tx_get h]; rfl)
theorem tl_get' {s : List Sy} {k : Nat} (h : k < s.length) : ixD (tll s) (.int (k : Int)) = some (.str (txS (lst 12 (tx s k)))) := ix_nat (by rw [List.getElem?_map, tx_get h]; rfl)
theorem mp_snoc {s : List Sy} {k : Nat} {x : Sy} (f : List Nat → D) (h : s[k]? = some x) : (.list ((txs (s.take k)).map f ++ [f (tx s k)]) : D) = .list ((txs (s.take (k + 1))).map f) := by
  rw [take_snoc h, txs_snoc, tx_at h]; simp
theorem edges_ok {s : List Sy} (wf : WF s) (hz : s.length < 1000) : m__law_edges [sy s, .int 12] = .ok (.tuple [hdl s, tll s]) := by
  suffices H : ∃ x, o__law_edges [some (sy s), some (.int 12), none, none, none] = x ∧ x = .rt (.tuple [hdl s, tll s]) by
    obtain ⟨x, h1, rfl⟩ := H
    exact run_rt h1
  have z0 : 0 ≤ sizeLine := sz_ge (by omega)
  have z2 : 2 ≤ sizeLine := sz_ge (by omega)
  refine seq_ex (e := [some (sy s), some (.int 12), some (hdl []), none, none]) ?_ ?_
  · simp only [ap_var, ap_c, ap_m1, ap_m2, ap_m3, ap_part, ap_nopart, ap_if, ap_isN, ap_notN, ap_list, ap_tup, ap_nil, ap_cons, ap_cb, ap_m1m, ap_chain, ap_isi, ap_mB, ap_asB, ap_and, ap_or, ap_not, ap_yes, ap_call, ap_lc, ap_noX, ap_iseq, ap_iown, ap_seq, th_nx, th_rt, th_exc, ap_skip, ap_set, ap_asg, ap_aug, ap_lm, ap_put, ap_oif, ap_ret, ap_drop, ap_raise, ap_gN, ap_gT, ap_gsN, ap_gsC, ap_app, Res.bind_ok, Res.bind_exc, Res.of_some, exOut_ok, exOut_exc, wipeE, Option.bind_some, List.length_cons, List.length_nil, List.getElem?_cons_zero, List.getElem?_cons_succ, List.set_cons_zero, List.set_cons_succ, List.map_cons, List.map_nil, add_ii, sub_ii, cmpI, negD, modD, ap_lenL, ap_lenT, intD, int1, int2, walkD, if_true, if_false, decide_eq_true_eq, Bool.false_eq_true, reduceIte, Nat.reduceAdd, Nat.reduceSub, List.replicate_succ, List.replicate_zero, List.cons_append, List.nil_append, z0]
    rfl
  refine seq_ex (e := [some (sy s), some (.int 12), some (hdl []), some (tll []), none]) ?_ ?_
  · simp only [ap_var, ap_c, ap_m1, ap_m2, ap_m3, ap_part, ap_nopart, ap_if, ap_isN, ap_notN, ap_list, ap_tup, ap_nil, ap_cons, ap_cb, ap_m1m, ap_chain, ap_isi, ap_mB, ap_asB, ap_and, ap_or, ap_not, ap_yes, ap_call, ap_lc, ap_noX, ap_iseq, ap_iown, ap_seq, th_nx, th_rt, th_exc, ap_skip, ap_set, ap_asg, ap_aug, ap_lm, ap_put, ap_oif, ap_ret, ap_drop, ap_raise, ap_gN, ap_gT, ap_gsN, ap_gsC, ap_app, Res.bind_ok, Res.bind_exc, Res.of_some, exOut_ok, exOut_exc, wipeE, Option.bind_some, List.length_cons, List.length_nil, List.getElem?_cons_zero, List.getElem?_cons_succ, List.set_cons_zero, List.set_cons_succ, List.map_cons, List.map_nil, add_ii, sub_ii, cmpI, negD, modD, ap_lenL, ap_lenT, intD, int1, int2, walkD, if_true, if_false, decide_eq_true_eq, Bool.false_eq_true, reduceIte, Nat.reduceAdd, Nat.reduceSub, List.replicate_succ, List.replicate_zero, List.cons_append, List.nil_append, z0]
    rfl
  refine seq_for (fun n e => ∃ j, e = [some (sy s), some (.int 12), some (hdl (s.take n)), some (tll (s.take n)), j]) (s.map Sy.d) rfl ⟨none, rfl⟩ ?_ ?_
  · rintro n d e hd ⟨j, rfl⟩
    obtain ⟨x, hx, rfl⟩ := map_get hd
    have hn := lt_of_get hx
    have hz2 : ((txs (s.take n)).map fun t => PyData.str (txS (t.take 12))).length < sizeLine := sz_gt (by simp [txs_length]; omega)
    have hz3 : ((txs (s.take n)).map fun t => PyData.str (txS (lst 12 t))).length < sizeLine := sz_gt (by simp [txs_length]; omega)
    have q1 : hdl (s.take (n + 1)) = _ := (mp_snoc (fun t => .str (txS (t.take 12))) hx).symm
    have q2 : tll (s.take (n + 1)) = _ := (mp_snoc (fun t => .str (txS (lst 12 t))) hx).symm
    refine ⟨_, [some (sy s), some (.int 12), some (hdl (s.take (n + 1))), some (tll (s.take (n + 1))), some x.d], rfl, ?_, _, rfl⟩
    rw [q1, q2]
    cases x with
    | L c =>
      have e1 : (tx s n).take 12 = [c] := by rw [tx_L hx]; rfl
      have e2 : lst 12 (tx s n) = [c] := by rw [tx_L hx]; rfl
      rw [e1, e2]
      simp only [ap_var, ap_c, ap_m1, ap_m2, ap_m3, ap_part, ap_nopart, ap_if, ap_isN, ap_notN, ap_list, ap_tup, ap_nil, ap_cons, ap_cb, ap_m1m, ap_chain, ap_isi, ap_mB, ap_asB, ap_and, ap_or, ap_not, ap_yes, ap_call, ap_lc, ap_noX, ap_iseq, ap_iown, ap_seq, th_nx, th_rt, th_exc, ap_skip, ap_set, ap_asg, ap_aug, ap_lm, ap_put, ap_oif, ap_ret, ap_drop, ap_raise, ap_gN, ap_gT, ap_gsN, ap_gsC, ap_app, Res.bind_ok, Res.bind_exc, Res.of_some, exOut_ok, exOut_exc, wipeE, Option.bind_some, List.length_cons, List.length_nil, List.getElem?_cons_zero, List.getElem?_cons_succ, List.set_cons_zero, List.set_cons_succ, List.map_cons, List.map_nil, add_ii, sub_ii, cmpI, negD, modD, ap_lenL, ap_lenT, intD, int1, int2, walkD, if_true, if_false, decide_eq_true_eq, Bool.false_eq_true, reduceIte, Nat.reduceAdd, Nat.reduceSub, List.replicate_succ, List.replicate_zero, List.cons_append, List.nil_append, d_L0, d_L1, str_pl, hz2, hz3]
    | P i j =>
      obtain ⟨hi, hj⟩ := wf.pair n i j hx
      have g1 := hd_get (s := s.take n) (k := i) (by simp; omega)
      have g2 := hd_get (s := s.take n) (k := j) (by simp; omega)
      have g3 := tl_get' (s := s.take n) (k := i) (by simp; omega)
      have g4 := tl_get' (s := s.take n) (k := j) (by simp; omega)
      rw [tx_take hi (by omega)] at g1 g3
      rw [tx_take hj (by omega)] at g2 g4
      have l1 : ∀ t : List Nat, (t.take 12).length ≤ 12 := fun t => by rw [List.length_take]; omega
      have l2 : ∀ t : List Nat, (lst 12 t).length ≤ 12 := fun t => by rw [lst_len]; omega
      have a1 := addS (x := (tx s i).take 12) (y := (tx s j).take 12) (by have := l1 (tx s i); have := l1 (tx s j); omega)
      have a2 := addS (x := lst 12 (tx s i)) (y := lst 12 (tx s j)) (by have := l2 (tx s i); have := l2 (tx s j); omega)
      have b1 := sl_to (t := (tx s i).take 12 ++ (tx s j).take 12) (a := 12) (sz_ge (by have := l1 (tx s i); have := l1 (tx s j); rw [List.length_append]; omega))
      have b2 := sl_neg (t := lst 12 (tx s i) ++ lst 12 (tx s j)) (n := 12) (by omega) (sz_ge (by have := l2 (tx s i); have := l2 (tx s j); rw [List.length_append]; omega))
      rw [show ((12 : Nat) : Int) = 12 from rfl] at b1 b2
      rw [take_take12, ← tx_P wf hx] at b1
      rw [lst_lst12, ← tx_P wf hx] at b2
      simp only [ap_var, ap_c, ap_m1, ap_m2, ap_m3, ap_part, ap_nopart, ap_if, ap_isN, ap_notN, ap_list, ap_tup, ap_nil, ap_cons, ap_cb, ap_m1m, ap_chain, ap_isi, ap_mB, ap_asB, ap_and, ap_or, ap_not, ap_yes, ap_call, ap_lc, ap_noX, ap_iseq, ap_iown, ap_seq, th_nx, th_rt, th_exc, ap_skip, ap_set, ap_asg, ap_aug, ap_lm, ap_put, ap_oif, ap_ret, ap_drop, ap_raise, ap_gN, ap_gT, ap_gsN, ap_gsC, ap_app, Res.bind_ok, Res.bind_exc, Res.of_some, exOut_ok, exOut_exc, wipeE, Option.bind_some, List.length_cons, List.length_nil, List.getElem?_cons_zero, List.getElem?_cons_succ, List.set_cons_zero, List.set_cons_succ, List.map_cons, List.map_nil, add_ii, sub_ii, cmpI, negD, modD, ap_lenL, ap_lenT, intD, int1, int2, walkD, if_true, if_false, decide_eq_true_eq, Bool.false_eq_true, reduceIte, Nat.reduceAdd, Nat.reduceSub, List.replicate_succ, List.replicate_zero, List.cons_append, List.nil_append, d_P0, d_P1, d_P2, str_pp, g1, g2, g3, g4, a1, a2, b1, b2, hz2, hz3]
  · rintro e ⟨j, rfl⟩
    refine ⟨_, ?_, rfl⟩
    simp only [ap_var, ap_c, ap_m1, ap_m2, ap_m3, ap_part, ap_nopart, ap_if, ap_isN, ap_notN, ap_list, ap_tup, ap_nil, ap_cons, ap_cb, ap_m1m, ap_chain, ap_isi, ap_mB, ap_asB, ap_and, ap_or, ap_not, ap_yes, ap_call, ap_lc, ap_noX, ap_iseq, ap_iown, ap_seq, th_nx, th_rt, th_exc, ap_skip, ap_set, ap_asg, ap_aug, ap_lm, ap_put, ap_oif, ap_ret, ap_drop, ap_raise, ap_gN, ap_gT, ap_gsN, ap_gsC, ap_app, Res.bind_ok, Res.bind_exc, Res.of_some, exOut_ok, exOut_exc, wipeE, Option.bind_some, List.length_cons, List.length_nil, List.getElem?_cons_zero, List.getElem?_cons_succ, List.set_cons_zero, List.set_cons_succ, List.map_cons, List.map_nil, add_ii, sub_ii, cmpI, negD, modD, ap_lenL, ap_lenT, intD, int1, int2, walkD, if_true, if_false, decide_eq_true_eq, Bool.false_eq_true, reduceIte, Nat.reduceAdd, Nat.reduceSub, List.replicate_succ, List.replicate_zero, List.cons_append, List.nil_append, z2]
    simp
/-! ### counts by seams -/
abbrev cnl (w : List Nat) (s : List Sy) : D := .list ((txs s).map fun t => .int (KM.occ w t))
theorem cn_get {w : List Nat} {s : List Sy} {k : Nat} (h : k < s.length) : ixD (cnl w s) (.int (k : Int)) = some (.int (KM.occ w (tx s k))) := ix_nat (by rw [List.getElem?_map, tx_get h]; rfl)
theorem counts_ok {s : List Sy} (wf : WF s) (hz : s.length < 1000) {w : List Nat} (hw : 0 < w.length) (hw2 : w.length ≤ 12) : m__law_counts [sy s, .str (txS w)] = .ok (cnl w s) := by
  suffices H : ∃ x, o__law_counts [some (sy s), some (.str (txS w)), none, none, none, none, none, none] = x ∧ x = .rt (cnl w s) by
    obtain ⟨x, h1, rfl⟩ := H
    exact run_rt h1
  have z0 : 0 ≤ sizeLine := sz_ge (by omega)
  have lw := ap_lenS (xs := w) (sz_ge (by omega))
  obtain ⟨m, hm⟩ : ∃ m, m = w.length - 1 := ⟨_, rfl⟩
  have hm' : (w.length : Int) - 1 = (m : Int) := by omega
  refine seq_ex (e := [some (sy s), some (.str (txS w)), some (.int m), none, none, none, none, none]) ?_ ?_
  · simp only [ap_var, ap_c, ap_m1, ap_m2, ap_m3, ap_part, ap_nopart, ap_if, ap_isN, ap_notN, ap_list, ap_tup, ap_nil, ap_cons, ap_cb, ap_m1m, ap_chain, ap_isi, ap_mB, ap_asB, ap_and, ap_or, ap_not, ap_yes, ap_call, ap_lc, ap_noX, ap_iseq, ap_iown, ap_seq, th_nx, th_rt, th_exc, ap_skip, ap_set, ap_asg, ap_aug, ap_lm, ap_put, ap_oif, ap_ret, ap_drop, ap_raise, ap_gN, ap_gT, ap_gsN, ap_gsC, ap_app, Res.bind_ok, Res.bind_exc, Res.of_some, exOut_ok, exOut_exc, wipeE, Option.bind_some, List.length_cons, List.length_nil, List.getElem?_cons_zero, List.getElem?_cons_succ, List.set_cons_zero, List.set_cons_succ, List.map_cons, List.map_nil, add_ii, sub_ii, cmpI, negD, modD, ap_lenL, ap_lenT, intD, int1, int2, walkD, if_true, if_false, decide_eq_true_eq, Bool.false_eq_true, reduceIte, Nat.reduceAdd, Nat.reduceSub, List.replicate_succ, List.replicate_zero, List.cons_append, List.nil_append, lw, hm']
  refine seq_ex (e := [some (sy s), some (.str (txS w)), some (.int m), none, none, some (hdl s), some (tll s), none]) ?_ ?_
  · simp only [ap_var, ap_c, ap_m1, ap_m2, ap_m3, ap_part, ap_nopart, ap_if, ap_isN, ap_notN, ap_list, ap_tup, ap_nil, ap_cons, ap_cb, ap_m1m, ap_chain, ap_isi, ap_mB, ap_asB, ap_and, ap_or, ap_not, ap_yes, ap_call, ap_lc, ap_noX, ap_iseq, ap_iown, ap_seq, th_nx, th_rt, th_exc, ap_skip, ap_set, ap_asg, ap_aug, ap_lm, ap_put, ap_oif, ap_ret, ap_drop, ap_raise, ap_gN, ap_gT, ap_gsN, ap_gsC, ap_app, Res.bind_ok, Res.bind_exc, Res.of_some, exOut_ok, exOut_exc, wipeE, Option.bind_some, List.length_cons, List.length_nil, List.getElem?_cons_zero, List.getElem?_cons_succ, List.set_cons_zero, List.set_cons_succ, List.map_cons, List.map_nil, add_ii, sub_ii, cmpI, negD, modD, ap_lenL, ap_lenT, intD, int1, int2, walkD, if_true, if_false, decide_eq_true_eq, Bool.false_eq_true, reduceIte, Nat.reduceAdd, Nat.reduceSub, List.replicate_succ, List.replicate_zero, List.cons_append, List.nil_append, edges_ok wf hz]
  refine seq_ex (e := [some (sy s), some (.str (txS w)), some (.int m), some (cnl w []), none, some (hdl s), some (tll s), none]) ?_ ?_
  · simp only [ap_var, ap_c, ap_m1, ap_m2, ap_m3, ap_part, ap_nopart, ap_if, ap_isN, ap_notN, ap_list, ap_tup, ap_nil, ap_cons, ap_cb, ap_m1m, ap_chain, ap_isi, ap_mB, ap_asB, ap_and, ap_or, ap_not, ap_yes, ap_call, ap_lc, ap_noX, ap_iseq, ap_iown, ap_seq, th_nx, th_rt, th_exc, ap_skip, ap_set, ap_asg, ap_aug, ap_lm, ap_put, ap_oif, ap_ret, ap_drop, ap_raise, ap_gN, ap_gT, ap_gsN, ap_gsC, ap_app, Res.bind_ok, Res.bind_exc, Res.of_some, exOut_ok, exOut_exc, wipeE, Option.bind_some, List.length_cons, List.length_nil, List.getElem?_cons_zero, List.getElem?_cons_succ, List.set_cons_zero, List.set_cons_succ, List.map_cons, List.map_nil, add_ii, sub_ii, cmpI, negD, modD, ap_lenL, ap_lenT, intD, int1, int2, walkD, if_true, if_false, decide_eq_true_eq, Bool.false_eq_true, reduceIte, Nat.reduceAdd, Nat.reduceSub, List.replicate_succ, List.replicate_zero, List.cons_append, List.nil_append, z0]
    rfl
  refine seq_for (fun n e => ∃ j j7, e = [some (sy s), some (.str (txS w)), some (.int m), some (cnl w (s.take n)), j, some (hdl s), some (tll s), j7]) (s.map Sy.d) rfl ⟨none, none, rfl⟩ ?_ ?_
  · rintro n d e hd ⟨j, j7, rfl⟩
    obtain ⟨x, hx, rfl⟩ := map_get hd
    have hn := lt_of_get hx
    have hz2 : ((txs (s.take n)).map fun t => PyData.int (KM.occ w t)).length < sizeLine := sz_gt (by simp [txs_length]; omega)
    have q1 : cnl w (s.take (n + 1)) = _ := (mp_snoc (fun t => .int (KM.occ w t)) hx).symm
    cases x with
    | L c =>
      refine ⟨_, [some (sy s), some (.str (txS w)), some (.int m), some (cnl w (s.take (n + 1))), some (Sy.L c).d, some (hdl s), some (tll s), j7], rfl, ?_, _, _, rfl⟩
      rw [q1]
      have e1 : (KM.occ w (tx s n) : Int) = if decide ([c] = w) = true then 1 else 0 := by
        rw [tx_L hx, occ_one hw]
        by_cases h : [c] = w
        · simp [h]
        · simp [h]
      rw [e1]
      simp only [ap_var, ap_c, ap_m1, ap_m2, ap_m3, ap_part, ap_nopart, ap_if, ap_isN, ap_notN, ap_list, ap_tup, ap_nil, ap_cons, ap_cb, ap_m1m, ap_chain, ap_isi, ap_mB, ap_asB, ap_and, ap_or, ap_not, ap_yes, ap_call, ap_lc, ap_noX, ap_iseq, ap_iown, ap_seq, th_nx, th_rt, th_exc, ap_skip, ap_set, ap_asg, ap_aug, ap_lm, ap_put, ap_oif, ap_ret, ap_drop, ap_raise, ap_gN, ap_gT, ap_gsN, ap_gsC, ap_app, Res.bind_ok, Res.bind_exc, Res.of_some, exOut_ok, exOut_exc, wipeE, Option.bind_some, List.length_cons, List.length_nil, List.getElem?_cons_zero, List.getElem?_cons_succ, List.set_cons_zero, List.set_cons_succ, List.map_cons, List.map_nil, add_ii, sub_ii, cmpI, negD, modD, ap_lenL, ap_lenT, intD, int1, int2, walkD, if_true, if_false, decide_eq_true_eq, Bool.false_eq_true, reduceIte, Nat.reduceAdd, Nat.reduceSub, List.replicate_succ, List.replicate_zero, List.cons_append, List.nil_append, d_L0, d_L1, str_pl, eq_txt, hz2]
    | P i j =>
      obtain ⟨hi, hj⟩ := wf.pair n i j hx
      have c1 := cn_get (w := w) (s := s.take n) (k := i) (by simp; omega)
      have c2 := cn_get (w := w) (s := s.take n) (k := j) (by simp; omega)
      rw [tx_take hi (by omega)] at c1
      rw [tx_take hj (by omega)] at c2
      have g1 := tl_get' (s := s) (k := i) (by omega)
      have g2 := hd_get (s := s) (k := j) (by omega)
      have l1 : (lst 12 (tx s i)).length ≤ 12 := by rw [lst_len]; omega
      have l2 : ((tx s j).take 12).length ≤ 12 := by rw [List.length_take]; omega
      have l3 := ap_lenS (xs := lst 12 (tx s i)) (sz_ge (by omega))
      have b1 := sl_from (t := lst 12 (tx s i)) (a := (lst 12 (tx s i)).length - m) (sz_ge (by omega))
      have b1' : (lst 12 (tx s i)).drop ((lst 12 (tx s i)).length - m) = lst m (tx s i) := lst_lst (by omega)
      rw [b1'] at b1
      have b2 := sl_to (t := (tx s j).take 12) (a := m) (sz_ge (by omega))
      rw [List.take_take, Nat.min_eq_left (show m ≤ 12 by omega)] at b2
      have l4 : (lst m (tx s i)).length ≤ 12 := by rw [lst_len]; omega
      have l5 : ((tx s j).take m).length ≤ 12 := by rw [List.length_take]; omega
      have a1 := addS (x := lst m (tx s i)) (y := (tx s j).take m) (by omega)
      have sc := scan_ok (t := lst m (tx s i) ++ (tx s j).take m) (w := w) (by rw [List.length_append]; omega) (by omega)
      have e1 : (KM.occ w (tx s n) : Int) = (KM.occ w (tx s i) : Int) + (KM.occ w (tx s j) : Int) + (KM.occ w (lst m (tx s i) ++ (tx s j).take m) : Int) := by
        rw [tx_P wf hx, occ_app hw, ← hm]
        omega
      refine ⟨_, [some (sy s), some (.str (txS w)), some (.int m), some (cnl w (s.take (n + 1))), some (Sy.P i j).d, some (hdl s), some (tll s), some (.str (txS (lst m (tx s i))))], rfl, ?_, _, _, rfl⟩
      rw [q1, e1]
      simp only [ap_var, ap_c, ap_m1, ap_m2, ap_m3, ap_part, ap_nopart, ap_if, ap_isN, ap_notN, ap_list, ap_tup, ap_nil, ap_cons, ap_cb, ap_m1m, ap_chain, ap_isi, ap_mB, ap_asB, ap_and, ap_or, ap_not, ap_yes, ap_call, ap_lc, ap_noX, ap_iseq, ap_iown, ap_seq, th_nx, th_rt, th_exc, ap_skip, ap_set, ap_asg, ap_aug, ap_lm, ap_put, ap_oif, ap_ret, ap_drop, ap_raise, ap_gN, ap_gT, ap_gsN, ap_gsC, ap_app, Res.bind_ok, Res.bind_exc, Res.of_some, exOut_ok, exOut_exc, wipeE, Option.bind_some, List.length_cons, List.length_nil, List.getElem?_cons_zero, List.getElem?_cons_succ, List.set_cons_zero, List.set_cons_succ, List.map_cons, List.map_nil, add_ii, sub_ii, cmpI, negD, modD, ap_lenL, ap_lenT, intD, int1, int2, walkD, if_true, if_false, decide_eq_true_eq, Bool.false_eq_true, reduceIte, Nat.reduceAdd, Nat.reduceSub, List.replicate_succ, List.replicate_zero, List.cons_append, List.nil_append, d_P0, d_P1, d_P2, str_pp, c1, c2, g1, g2, l3, max_sub, b1, b2, a1, sc, hz2]
  · rintro e ⟨j, j7, rfl⟩
    refine ⟨_, ?_, rfl⟩
    simp only [ap_var, ap_c, ap_m1, ap_m2, ap_m3, ap_part, ap_nopart, ap_if, ap_isN, ap_notN, ap_list, ap_tup, ap_nil, ap_cons, ap_cb, ap_m1m, ap_chain, ap_isi, ap_mB, ap_asB, ap_and, ap_or, ap_not, ap_yes, ap_call, ap_lc, ap_noX, ap_iseq, ap_iown, ap_seq, th_nx, th_rt, th_exc, ap_skip, ap_set, ap_asg, ap_aug, ap_lm, ap_put, ap_oif, ap_ret, ap_drop, ap_raise, ap_gN, ap_gT, ap_gsN, ap_gsC, ap_app, Res.bind_ok, Res.bind_exc, Res.of_some, exOut_ok, exOut_exc, wipeE, Option.bind_some, List.length_cons, List.length_nil, List.getElem?_cons_zero, List.getElem?_cons_succ, List.set_cons_zero, List.set_cons_succ, List.map_cons, List.map_nil, add_ii, sub_ii, cmpI, negD, modD, ap_lenL, ap_lenT, intD, int1, int2, walkD, if_true, if_false, decide_eq_true_eq, Bool.false_eq_true, reduceIte, Nat.reduceAdd, Nat.reduceSub, List.replicate_succ, List.replicate_zero, List.cons_append, List.nil_append]
    simp
/-! ### a word -/
theorem s_abqc : (("ab?c" : String) : Str) = txS [97, 98, 63, 99] := by decide +kernel
theorem pick4c (l : Nat) (h : l < 4) : ∃ c, ixD (.str ("ab?c" : String)) (.int (l : Int)) = some (.str (txS [c])) := by
  rw [s_abqc]
  match l, h with
  | 0, _ => exact ⟨_, ix_str (n := 0) (sz_ge (by decide)) rfl⟩
  | 1, _ => exact ⟨_, ix_str (n := 1) (sz_ge (by decide)) rfl⟩
  | 2, _ => exact ⟨_, ix_str (n := 2) (sz_ge (by decide)) rfl⟩
  | 3, _ => exact ⟨_, ix_str (n := 3) (sz_ge (by decide)) rfl⟩
theorem short_eq {B : Nat} : ∀ T : List (List Nat), (((T.map (tD B)).filter fun d => !isND d).map id) = (T.filter fun t => decide (t.length ≤ B)).map fun t => .str (txS t)
  | [] => rfl
  | t :: T => by
    have ih := short_eq (B := B) T
    rw [List.map_id] at ih ⊢
    rw [List.map_cons, List.filter_cons, List.filter_cons]
    by_cases h : t.length ≤ B
    · have e : tD B t = .str (txS t) := if_pos h
      rw [e, decide_eq_true h]
      rw [if_pos (show (!isND (PyData.str (txS t))) = true from rfl), if_pos rfl, List.map_cons, ih]
    · have e : tD B t = .none := if_neg h
      rw [e, decide_eq_false h]
      rw [if_neg (show ¬ (!isND PyData.none) = true from by decide), if_neg (by decide), ih]
theorem word_ok {xs : List Int} (hx : 0 < xs.length) {at' : Int} {s : List Sy} (wf : WF s) (h0 : 0 < s.length) (hz : s.length < 1000) : ∃ w, m__law_word [li xs, .int at', tl 3000 s] = .ok (.str (txS w)) ∧ 0 < w.length ∧ w.length ≤ 12 := by
  suffices H : ∃ x, o__law_word [some (li xs), some (.int at'), some (tl 3000 s), none, none, none, none] = x ∧ ∃ w, x = .rt (.str (txS w)) ∧ 0 < w.length ∧ w.length ≤ 12 by
    obtain ⟨x, h0, w, h1, h2⟩ := H
    exact ⟨w, run_rt (h0.trans h1), h2⟩
  obtain ⟨ts, hts⟩ : ∃ ts, ts = (txs s).filter fun t => decide (t.length ≤ 3000) := ⟨_, rfl⟩
  have hin : ∀ t ∈ ts, 0 < t.length ∧ t.length ≤ 3000 := by
    intro t ht
    rw [hts, List.mem_filter] at ht
    refine ⟨?_, by simpa using ht.2⟩
    obtain ⟨k, hk⟩ := List.getElem?_of_mem ht.1
    have hk' := lt_of_get hk
    rw [txs_length] at hk'
    rw [tx_get hk'] at hk
    cases hk
    exact tx_pos wf k k (Nat.le_refl _) hk'
  have hne : 0 < ts.length := by
    have : tx s 0 ∈ ts := by
      rw [hts, List.mem_filter]
      refine ⟨List.mem_of_getElem? (tx_get h0), ?_⟩
      cases h : s[0] with
      | L c => rw [tx_L (by rw [List.getElem?_eq_getElem h0, h])]; rfl
      | P i j => have := wf.pair 0 i j (by rw [List.getElem?_eq_getElem h0, h]); omega
    exact List.length_pos_of_mem this
  have hlt : ts.length ≤ s.length := by
    have := List.length_filter_le (fun t : List Nat => decide (t.length ≤ 3000)) (txs s)
    rw [txs_length, ← hts] at this
    exact this
  have p12 : (0 : Int) < 12 := by decide
  have p4 : (0 : Int) < 4 := by decide
  obtain ⟨v0, _, hv0⟩ := drawn_ok (a := at') hx
  obtain ⟨v1, _, hv1⟩ := drawn_ok (a := at' + 1) hx
  obtain ⟨v2, _, hv2⟩ := drawn_ok (a := at' + 2) hx
  obtain ⟨v3, _, hv3⟩ := drawn_ok (a := at' + 3) hx
  obtain ⟨v4, _, hv4⟩ := drawn_ok (a := at' + 4) hx
  obtain ⟨k, hk, hk2⟩ := mod_nat v0 hne
  obtain ⟨t, ht⟩ : ∃ t, ts[k]? = some t := ⟨_, List.getElem?_eq_getElem hk2⟩
  obtain ⟨ht1, ht2⟩ := hin t (List.mem_of_getElem? ht)
  obtain ⟨a, ha, ha2⟩ := mod_nat v1 ht1
  obtain ⟨l, hl, hl2⟩ := mod_nat v2 (n := 12) (by omega)
  obtain ⟨l3, hl3, hl3'⟩ := mod_nat v4 (n := 4) (by omega)
  rw [show ((12 : Nat) : Int) = 12 from rfl] at hl
  rw [show ((4 : Nat) : Int) = 4 from rfl] at hl3
  obtain ⟨c, hc⟩ := pick4c l3 hl3'
  have hL : (0 : Int) < (ts.length : Int) := by omega
  have hT : (0 : Int) < (t.length : Int) := by omega
  have lt := ap_lenS (xs := t) (sz_ge (by omega))
  refine seq_ex (e := [some (li xs), some (.int at'), some (tl 3000 s), some (.list (ts.map fun t => .str (txS t))), none, none, none]) ?_ ?_
  · refine (set_ok ?_).trans rfl
    have h1 := lc_map (v := 4) (m := mVar 4) (nc := mB (mNotN (mVar 4))) (env := [some (li xs), some (.int at'), some (tl 3000 s), none, none, none, none]) (fun d => !isND d) id (ds := (txs s).map (tD 3000)) (fun d _ => ⟨by simp only [ap_var, ap_c, ap_m1, ap_m2, ap_m3, ap_part, ap_nopart, ap_if, ap_isN, ap_notN, ap_list, ap_tup, ap_nil, ap_cons, ap_cb, ap_m1m, ap_chain, ap_isi, ap_mB, ap_asB, ap_and, ap_or, ap_not, ap_yes, ap_call, ap_lc, ap_noX, ap_iseq, ap_iown, ap_seq, th_nx, th_rt, th_exc, ap_skip, ap_set, ap_asg, ap_aug, ap_lm, ap_put, ap_oif, ap_ret, ap_drop, ap_raise, ap_gN, ap_gT, ap_gsN, ap_gsC, ap_app, Res.bind_ok, Res.bind_exc, Res.of_some, exOut_ok, exOut_exc, wipeE, Option.bind_some, List.length_cons, List.length_nil, List.getElem?_cons_zero, List.getElem?_cons_succ, List.set_cons_zero, List.set_cons_succ, List.map_cons, List.map_nil, add_ii, sub_ii, cmpI, negD, modD, ap_lenL, ap_lenT, intD, int1, int2, walkD, if_true, if_false, decide_eq_true_eq, Bool.false_eq_true, reduceIte, Nat.reduceAdd, Nat.reduceSub, List.replicate_succ, List.replicate_zero, List.cons_append, List.nil_append], fun _ => by simp only [ap_var, ap_c, ap_m1, ap_m2, ap_m3, ap_part, ap_nopart, ap_if, ap_isN, ap_notN, ap_list, ap_tup, ap_nil, ap_cons, ap_cb, ap_m1m, ap_chain, ap_isi, ap_mB, ap_asB, ap_and, ap_or, ap_not, ap_yes, ap_call, ap_lc, ap_noX, ap_iseq, ap_iown, ap_seq, th_nx, th_rt, th_exc, ap_skip, ap_set, ap_asg, ap_aug, ap_lm, ap_put, ap_oif, ap_ret, ap_drop, ap_raise, ap_gN, ap_gT, ap_gsN, ap_gsC, ap_app, Res.bind_ok, Res.bind_exc, Res.of_some, exOut_ok, exOut_exc, wipeE, Option.bind_some, List.length_cons, List.length_nil, List.getElem?_cons_zero, List.getElem?_cons_succ, List.set_cons_zero, List.set_cons_succ, List.map_cons, List.map_nil, add_ii, sub_ii, cmpI, negD, modD, ap_lenL, ap_lenT, intD, int1, int2, walkD, if_true, if_false, decide_eq_true_eq, Bool.false_eq_true, reduceIte, Nat.reduceAdd, Nat.reduceSub, List.replicate_succ, List.replicate_zero, List.cons_append, List.nil_append, id]⟩)
    rw [short_eq, ← hts] at h1
    have hzz : (ts.map fun t => PyData.str (txS t)).length ≤ sizeLine := sz_ge (by simp; omega)
    rw [ap_lc]
    have h2 : iSeq (mVar 2) [some (li xs), some (.int at'), some (tl 3000 s), none, none, none, none] = .ok ((txs s).map (tD 3000)) := rfl
    have h3 : wipeE [some (li xs), some (.int at'), some (tl 3000 s), none, none, none, none] [4] = [some (li xs), some (.int at'), some (tl 3000 s), none, none, none, none] := rfl
    rw [h2, Res.bind_ok, h3, h1, ap_noX, Res.bind_ok, if_pos hzz]
  have hix : ixD (.list (ts.map fun t => .str (txS t))) (.int (k : Int)) = some (.str (txS t)) := ix_nat (by rw [List.getElem?_map, ht]; rfl)
  refine seq_ex (e := [some (li xs), some (.int at'), some (tl 3000 s), some (.list (ts.map fun t => .str (txS t))), some (.str (txS t)), none, none]) ?_ ?_
  · simp only [ap_var, ap_c, ap_m1, ap_m2, ap_m3, ap_part, ap_nopart, ap_if, ap_isN, ap_notN, ap_list, ap_tup, ap_nil, ap_cons, ap_cb, ap_m1m, ap_chain, ap_isi, ap_mB, ap_asB, ap_and, ap_or, ap_not, ap_yes, ap_call, ap_lc, ap_noX, ap_iseq, ap_iown, ap_seq, th_nx, th_rt, th_exc, ap_skip, ap_set, ap_asg, ap_aug, ap_lm, ap_put, ap_oif, ap_ret, ap_drop, ap_raise, ap_gN, ap_gT, ap_gsN, ap_gsC, ap_app, Res.bind_ok, Res.bind_exc, Res.of_some, exOut_ok, exOut_exc, wipeE, Option.bind_some, List.length_cons, List.length_nil, List.getElem?_cons_zero, List.getElem?_cons_succ, List.set_cons_zero, List.set_cons_succ, List.map_cons, List.map_nil, add_ii, sub_ii, cmpI, negD, modD, ap_lenL, ap_lenT, intD, int1, int2, walkD, if_true, if_false, decide_eq_true_eq, Bool.false_eq_true, reduceIte, Nat.reduceAdd, Nat.reduceSub, List.replicate_succ, List.replicate_zero, List.cons_append, List.nil_append, hv0, List.length_map, hL, hk, hix]
  refine seq_ex (e := [some (li xs), some (.int at'), some (tl 3000 s), some (.list (ts.map fun t => .str (txS t))), some (.str (txS t)), some (.int a), none]) ?_ ?_
  · simp only [ap_var, ap_c, ap_m1, ap_m2, ap_m3, ap_part, ap_nopart, ap_if, ap_isN, ap_notN, ap_list, ap_tup, ap_nil, ap_cons, ap_cb, ap_m1m, ap_chain, ap_isi, ap_mB, ap_asB, ap_and, ap_or, ap_not, ap_yes, ap_call, ap_lc, ap_noX, ap_iseq, ap_iown, ap_seq, th_nx, th_rt, th_exc, ap_skip, ap_set, ap_asg, ap_aug, ap_lm, ap_put, ap_oif, ap_ret, ap_drop, ap_raise, ap_gN, ap_gT, ap_gsN, ap_gsC, ap_app, Res.bind_ok, Res.bind_exc, Res.of_some, exOut_ok, exOut_exc, wipeE, Option.bind_some, List.length_cons, List.length_nil, List.getElem?_cons_zero, List.getElem?_cons_succ, List.set_cons_zero, List.set_cons_succ, List.map_cons, List.map_nil, add_ii, sub_ii, cmpI, negD, modD, ap_lenL, ap_lenT, intD, int1, int2, walkD, if_true, if_false, decide_eq_true_eq, Bool.false_eq_true, reduceIte, Nat.reduceAdd, Nat.reduceSub, List.replicate_succ, List.replicate_zero, List.cons_append, List.nil_append, hv1, lt, hT, ha]
  have hs := sl_both (t := t) (a := a) (b := a + 1 + l) (sz_ge (by omega)) (by omega)
  rw [show ((a + 1 + l : Nat) : Int) = (a : Int) + 1 + (l : Int) by omega, show a + 1 + l - a = 1 + l by omega] at hs
  obtain ⟨w, hw⟩ : ∃ w, w = (t.drop a).take (1 + l) := ⟨_, rfl⟩
  have wl : 0 < w.length ∧ w.length ≤ 12 := by rw [hw, List.length_take, List.length_drop]; omega
  rw [← hw] at hs
  refine seq_ex (e := [some (li xs), some (.int at'), some (tl 3000 s), some (.list (ts.map fun t => .str (txS t))), some (.str (txS t)), some (.int a), some (.str (txS w))]) ?_ ?_
  · simp only [ap_var, ap_c, ap_m1, ap_m2, ap_m3, ap_part, ap_nopart, ap_if, ap_isN, ap_notN, ap_list, ap_tup, ap_nil, ap_cons, ap_cb, ap_m1m, ap_chain, ap_isi, ap_mB, ap_asB, ap_and, ap_or, ap_not, ap_yes, ap_call, ap_lc, ap_noX, ap_iseq, ap_iown, ap_seq, th_nx, th_rt, th_exc, ap_skip, ap_set, ap_asg, ap_aug, ap_lm, ap_put, ap_oif, ap_ret, ap_drop, ap_raise, ap_gN, ap_gT, ap_gsN, ap_gsC, ap_app, Res.bind_ok, Res.bind_exc, Res.of_some, exOut_ok, exOut_exc, wipeE, Option.bind_some, List.length_cons, List.length_nil, List.getElem?_cons_zero, List.getElem?_cons_succ, List.set_cons_zero, List.set_cons_succ, List.map_cons, List.map_nil, add_ii, sub_ii, cmpI, negD, modD, ap_lenL, ap_lenT, intD, int1, int2, walkD, if_true, if_false, decide_eq_true_eq, Bool.false_eq_true, reduceIte, Nat.reduceAdd, Nat.reduceSub, List.replicate_succ, List.replicate_zero, List.cons_append, List.nil_append, hv2, p12, hl, hs]
  by_cases h1 : v3 % 4 = 1
  · have aa := addS (x := w) (y := [c]) (by simp; omega)
    have b2 := sl_neg (t := w ++ [c]) (n := 12) (by omega) (sz_ge (by simp; omega))
    rw [show ((12 : Nat) : Int) = 12 from rfl] at b2
    refine seq_ex (e := [some (li xs), some (.int at'), some (tl 3000 s), some (.list (ts.map fun t => .str (txS t))), some (.str (txS t)), some (.int a), some (.str (txS (lst 12 (w ++ [c]))))]) ?_ ?_
    · simp only [ap_var, ap_c, ap_m1, ap_m2, ap_m3, ap_part, ap_nopart, ap_if, ap_isN, ap_notN, ap_list, ap_tup, ap_nil, ap_cons, ap_cb, ap_m1m, ap_chain, ap_isi, ap_mB, ap_asB, ap_and, ap_or, ap_not, ap_yes, ap_call, ap_lc, ap_noX, ap_iseq, ap_iown, ap_seq, th_nx, th_rt, th_exc, ap_skip, ap_set, ap_asg, ap_aug, ap_lm, ap_put, ap_oif, ap_ret, ap_drop, ap_raise, ap_gN, ap_gT, ap_gsN, ap_gsC, ap_app, Res.bind_ok, Res.bind_exc, Res.of_some, exOut_ok, exOut_exc, wipeE, Option.bind_some, List.length_cons, List.length_nil, List.getElem?_cons_zero, List.getElem?_cons_succ, List.set_cons_zero, List.set_cons_succ, List.map_cons, List.map_nil, add_ii, sub_ii, cmpI, negD, modD, ap_lenL, ap_lenT, intD, int1, int2, walkD, if_true, if_false, decide_eq_true_eq, Bool.false_eq_true, reduceIte, Nat.reduceAdd, Nat.reduceSub, List.replicate_succ, List.replicate_zero, List.cons_append, List.nil_append, hv3, p4, eqi (decide_eq_true h1), hv4, hl3, hc, aa, b2]
    · refine ⟨_, ?_, lst 12 (w ++ [c]), rfl, ?_, ?_⟩
      · simp only [ap_var, ap_c, ap_m1, ap_m2, ap_m3, ap_part, ap_nopart, ap_if, ap_isN, ap_notN, ap_list, ap_tup, ap_nil, ap_cons, ap_cb, ap_m1m, ap_chain, ap_isi, ap_mB, ap_asB, ap_and, ap_or, ap_not, ap_yes, ap_call, ap_lc, ap_noX, ap_iseq, ap_iown, ap_seq, th_nx, th_rt, th_exc, ap_skip, ap_set, ap_asg, ap_aug, ap_lm, ap_put, ap_oif, ap_ret, ap_drop, ap_raise, ap_gN, ap_gT, ap_gsN, ap_gsC, ap_app, Res.bind_ok, Res.bind_exc, Res.of_some, exOut_ok, exOut_exc, wipeE, Option.bind_some, List.length_cons, List.length_nil, List.getElem?_cons_zero, List.getElem?_cons_succ, List.set_cons_zero, List.set_cons_succ, List.map_cons, List.map_nil, add_ii, sub_ii, cmpI, negD, modD, ap_lenL, ap_lenT, intD, int1, int2, walkD, if_true, if_false, decide_eq_true_eq, Bool.false_eq_true, reduceIte, Nat.reduceAdd, Nat.reduceSub, List.replicate_succ, List.replicate_zero, List.cons_append, List.nil_append]
      · rw [lst_len]; simp; omega
      · rw [lst_len]; omega
  · refine seq_ex (e := [some (li xs), some (.int at'), some (tl 3000 s), some (.list (ts.map fun t => .str (txS t))), some (.str (txS t)), some (.int a), some (.str (txS w))]) ?_ ?_
    · simp only [ap_var, ap_c, ap_m1, ap_m2, ap_m3, ap_part, ap_nopart, ap_if, ap_isN, ap_notN, ap_list, ap_tup, ap_nil, ap_cons, ap_cb, ap_m1m, ap_chain, ap_isi, ap_mB, ap_asB, ap_and, ap_or, ap_not, ap_yes, ap_call, ap_lc, ap_noX, ap_iseq, ap_iown, ap_seq, th_nx, th_rt, th_exc, ap_skip, ap_set, ap_asg, ap_aug, ap_lm, ap_put, ap_oif, ap_ret, ap_drop, ap_raise, ap_gN, ap_gT, ap_gsN, ap_gsC, ap_app, Res.bind_ok, Res.bind_exc, Res.of_some, exOut_ok, exOut_exc, wipeE, Option.bind_some, List.length_cons, List.length_nil, List.getElem?_cons_zero, List.getElem?_cons_succ, List.set_cons_zero, List.set_cons_succ, List.map_cons, List.map_nil, add_ii, sub_ii, cmpI, negD, modD, ap_lenL, ap_lenT, intD, int1, int2, walkD, if_true, if_false, decide_eq_true_eq, Bool.false_eq_true, reduceIte, Nat.reduceAdd, Nat.reduceSub, List.replicate_succ, List.replicate_zero, List.cons_append, List.nil_append, hv3, p4, eqi (decide_eq_false h1)]
    · refine ⟨_, ?_, w, rfl, wl⟩
      simp only [ap_var, ap_c, ap_m1, ap_m2, ap_m3, ap_part, ap_nopart, ap_if, ap_isN, ap_notN, ap_list, ap_tup, ap_nil, ap_cons, ap_cb, ap_m1m, ap_chain, ap_isi, ap_mB, ap_asB, ap_and, ap_or, ap_not, ap_yes, ap_call, ap_lc, ap_noX, ap_iseq, ap_iown, ap_seq, th_nx, th_rt, th_exc, ap_skip, ap_set, ap_asg, ap_aug, ap_lm, ap_put, ap_oif, ap_ret, ap_drop, ap_raise, ap_gN, ap_gT, ap_gsN, ap_gsC, ap_app, Res.bind_ok, Res.bind_exc, Res.of_some, exOut_ok, exOut_exc, wipeE, Option.bind_some, List.length_cons, List.length_nil, List.getElem?_cons_zero, List.getElem?_cons_succ, List.set_cons_zero, List.set_cons_succ, List.map_cons, List.map_nil, add_ii, sub_ii, cmpI, negD, modD, ap_lenL, ap_lenT, intD, int1, int2, walkD, if_true, if_false, decide_eq_true_eq, Bool.false_eq_true, reduceIte, Nat.reduceAdd, Nat.reduceSub, List.replicate_succ, List.replicate_zero, List.cons_append, List.nil_append]
end K67

namespace K67
open PySem PySem.Spec L2 DL
/-! ### sums over roots -/
theorem roots_list (g : Nat → D) (G : D → D) (hG : ∀ k : Nat, G (.int k) = g k) : ∀ rs : List (Option Nat), (((rs.map rtD).filter fun d => !isND d).map G) = (rs.filterMap id).map g
  | [] => rfl
  | none :: rs => by
    have ih := roots_list g G hG rs
    rw [List.map_cons, List.filter_cons, if_neg (show ¬ (!isND (rtD none)) = true from by decide), ih]
    rfl
  | some k :: rs => by
    have ih := roots_list g G hG rs
    rw [List.map_cons, List.filter_cons, if_pos (show (!isND (rtD (some k))) = true from rfl), List.map_cons, ih]
    show G (.int k) :: _ = g k :: _
    rw [hG]
def onN (g : Nat → D) : D → D
  | .int i => g i.toNat
  | d => d
theorem lc_roots {mi m : Env' → Res D} {v : Nat} {env : Env'} {rs : List (Option Nat)} (g : Nat → D) (hi : mi env = .ok (.list (rs.map rtD))) (hz : rs.length ≤ 16777216) (hv : v < (wipeE env [v]).length)
    (h : ∀ k, some k ∈ rs → m ((wipeE env [v]).set v (some (.int (k : Nat)))) = .ok (g k)) : mLc (iSeq mi) (gN v) (mB (mNotN (mVar v))) m [v] env = .ok (.list ((rs.filterMap id).map g)) := by
  have h1 := lc_map (v := v) (m := m) (nc := mB (mNotN (mVar v))) (env := wipeE env [v]) (fun d => !isND d) (onN g) (ds := rs.map rtD) (by
    intro d hd
    obtain ⟨o, ho, rfl⟩ := List.mem_map.mp hd
    refine ⟨?_, ?_⟩
    · have hg : ((wipeE env [v]).set v (some (rtD o)))[v]? = some (some (rtD o)) := List.getElem?_set_self hv
      simp only [ap_mB, ap_notN, ap_var, hg, Res.bind_ok, ap_asB]
    · intro hp
      cases o with
      | none => cases hp
      | some k => exact h k ho)
  rw [roots_list g (onN g) (fun k => by show g ((k : Int)).toNat = g k; rw [Int.toNat_natCast]) rs] at h1
  have h2 : iSeq mi env = .ok (rs.map rtD) := by
    rw [ap_iseq, hi]
    rfl
  have h3 : ((rs.filterMap id).map g).length ≤ sizeLine := by
    rw [List.length_map]
    exact sz_ge (Nat.le_trans (List.length_filterMap_le _ _) hz)
  rw [ap_lc, h2, Res.bind_ok, h1, ap_noX, Res.bind_ok, if_pos h3]
theorem ints_map (f : Nat → Nat) : ∀ ks : List Nat, intsOf (ks.map fun k => PyData.int (f k)) = some (ks.map fun k => (f k : Int))
  | [] => rfl
  | k :: ks => by
    show (intsOf (ks.map fun k => PyData.int (f k))).map _ = _
    rw [ints_map f ks]
    rfl
theorem sum_nat (f : Nat → Nat) : ∀ ks : List Nat, (ks.map fun k => (f k : Int)).sum = ((ks.map f).sum : Nat)
  | [] => rfl
  | k :: ks => by
    rw [List.map_cons, List.sum_cons, List.map_cons, List.sum_cons, sum_nat f ks, Int.natCast_add]
theorem sum_map (f : Nat → Nat) (ks : List Nat) : sumD [.list (ks.map fun k => PyData.int (f k))] = some (.int ((ks.map f).sum : Nat)) := by
  show (intsOf (ks.map fun k => PyData.int (f k))).map _ = _
  rw [ints_map, ← sum_nat]
  rfl
theorem count_of_ok {s : List Sy} (wf : WF s) (hz : s.length < 1000) {rs : List (Option Nat)} (hr : rs.length ≤ 1000) (hin : ∀ k, some k ∈ rs → k < s.length) {w : List Nat} (hw : w.length ≤ 1000) :
    m_count_of [.tuple [sy s, .list (rs.map rtD)], .str (txS w)] = .ok (.int (((rs.filterMap id).map fun k => KM.ct w 0 (tx s k)).sum : Nat)) := by
  refine run_rt ?_
  show o_count_of [some (.tuple [sy s, .list (rs.map rtD)]), some (.str (txS w)), none, none] = _
  unfold o_count_of
  have hm := meetings_ok wf hz (R := .list (rs.map rtD)) hw
  refine seq_nx (e := [some (.tuple [sy s, .list (rs.map rtD)]), some (.str (txS w)), some (mtl w s), none]) ?_ ?_
  · refine (set_ok (call_ok (l := [.tuple [sy s, .list (rs.map rtD)], .str (txS w)]) ?_ hm)).trans rfl
    simp only [ap_var, ap_c, ap_m1, ap_m2, ap_m3, ap_part, ap_nopart, ap_if, ap_isN, ap_notN, ap_list, ap_tup, ap_nil, ap_cons, ap_cb, ap_m1m, ap_chain, ap_isi, ap_mB, ap_asB, ap_and, ap_or, ap_not, ap_yes, ap_call, ap_lc, ap_noX, ap_iseq, ap_iown, ap_seq, th_nx, th_rt, th_exc, ap_skip, ap_set, ap_asg, ap_aug, ap_lm, ap_put, ap_oif, ap_ret, ap_drop, ap_raise, ap_gN, ap_gT, ap_gsN, ap_gsC, ap_app, Res.bind_ok, Res.bind_exc, Res.of_some, exOut_ok, exOut_exc, wipeE, Option.bind_some, List.length_cons, List.length_nil, List.getElem?_cons_zero, List.getElem?_cons_succ, List.set_cons_zero, List.set_cons_succ, List.map_cons, List.map_nil, add_ii, sub_ii, cmpI, negD, modD, ap_lenL, ap_lenT, intD, int1, int2, walkD, if_true, if_false, decide_eq_true_eq, Bool.false_eq_true, reduceIte, Nat.reduceAdd, Nat.reduceSub, List.replicate_succ, List.replicate_zero, List.cons_append, List.nil_append]
  have h1 := lc_roots (mi := m2 ixD (mVar 0) (mC (.int 1))) (m := m2 ixD (m2 ixD (m2 ixD (mVar 2) (mVar 3)) (mC (.int 0))) (mC (.int 1))) (v := 3) (env := [some (.tuple [sy s, .list (rs.map rtD)]), some (.str (txS w)), some (mtl w s), none]) (rs := rs) (fun k => .int (KM.ct w 0 (tx s k))) (m2_ok (f := ixD) (var_ok rfl) ap_c (ix_tup (n := 1) rfl)) (by omega) (by show 3 < 4; omega) (fun k hk => by
    have hk2 := hin k hk
    have g1 := mtl_get (w := w) hk2
    have g2 := row_get (w := w) (t := tx s k) (m := 0) (Nat.zero_le _)
    have g3 : ixD (cellD w (tx s k) 0) (.int 1) = some (.int (KM.ct w 0 (tx s k))) := ix_tup (n := 1) rfl
    rw [show (((0 : Nat) : Int)) = 0 from rfl] at g2
    simp only [ap_var, ap_c, ap_m1, ap_m2, ap_m3, ap_part, ap_nopart, ap_if, ap_isN, ap_notN, ap_list, ap_tup, ap_nil, ap_cons, ap_cb, ap_m1m, ap_chain, ap_isi, ap_mB, ap_asB, ap_and, ap_or, ap_not, ap_yes, ap_call, ap_lc, ap_noX, ap_iseq, ap_iown, ap_seq, th_nx, th_rt, th_exc, ap_skip, ap_set, ap_asg, ap_aug, ap_lm, ap_put, ap_oif, ap_ret, ap_drop, ap_raise, ap_gN, ap_gT, ap_gsN, ap_gsC, ap_app, Res.bind_ok, Res.bind_exc, Res.of_some, exOut_ok, exOut_exc, wipeE, Option.bind_some, List.length_cons, List.length_nil, List.getElem?_cons_zero, List.getElem?_cons_succ, List.set_cons_zero, List.set_cons_succ, List.map_cons, List.map_nil, add_ii, sub_ii, cmpI, negD, modD, ap_lenL, ap_lenT, intD, int1, int2, walkD, if_true, if_false, decide_eq_true_eq, Bool.false_eq_true, reduceIte, Nat.reduceAdd, Nat.reduceSub, List.replicate_succ, List.replicate_zero, List.cons_append, List.nil_append, g1, g2, g3])
  have h2 := sum_map (fun k => KM.ct w 0 (tx s k)) (rs.filterMap id)
  simp only [ap_ret, ap_cb, ap_cons, ap_nil, h1, Res.bind_ok, h2, Res.of_some, exOut_ok]
/-! ### repr -/
theorem repr_nat {n : Nat} (h : n < 2 ^ 100) : ∃ x, reprD [.int (n : Nat)] = some (.str x) := by
  refine ⟨PyData.shown (.int (n : Nat)), ?_⟩
  have h31 : (2 : Nat) ^ 100 < 10 ^ 31 := by decide
  have hl : n.log2 < 1920 := by
    by_cases hz : n = 0
    · subst hz; decide
    · refine (Nat.log2_lt hz).mpr (Nat.lt_of_lt_of_le h (Nat.pow_le_pow_right (by omega) (by omega)))
  have h2 : (PyData.shown (.int (n : Nat))).length ≤ 31 := by
    simp only [PyData.shown]
    exact PyProof.Rows.toString_length_le (v := (n : Int)) (k := 31) (by omega) (by decide) (by omega)
  have hk : reprOk (.int (n : Nat)) = true := by
    have e1 : PyData.canLay0 (.int (n : Nat)) = true := by simp [PyData.canLay0]
    have e2 : PyData.showable (.int (n : Nat)) = true := by simp only [PyData.showable, Int.natAbs_natCast]; exact decide_eq_true hl
    have e3 : PyData.depth (.int (n : Nat)) ≤ 64 := by simp [PyData.depth]
    have e4 : (PyData.shown (.int (n : Nat))).length ≤ sizeLine := sz_ge (by omega)
    unfold reprOk
    rw [e1, e2, decide_eq_true e3, decide_eq_true e4]
    rfl
  show (if reprOk (.int (n : Nat)) = true then _ else _) = _
  rw [if_pos hk]
theorem tx_bound {s : List Sy} (w : WF s) : ∀ n k, k ≤ n → k < s.length → (tx s k).length ≤ 2 ^ k := by
  intro n
  induction n with
  | zero =>
    intro k hn hk
    cases h : s[k] with
    | L c => rw [tx_L (by rw [List.getElem?_eq_getElem hk, h])]; exact Nat.one_le_two_pow
    | P i j => have := w.pair k i j (by rw [List.getElem?_eq_getElem hk, h]); omega
  | succ n ih =>
    intro k hn hk
    cases h : s[k] with
    | L c => rw [tx_L (by rw [List.getElem?_eq_getElem hk, h])]; exact Nat.one_le_two_pow
    | P i j =>
      have e : s[k]? = some (.P i j) := by rw [List.getElem?_eq_getElem hk, h]
      have := w.pair k i j e
      rw [tx_P w e, List.length_append]
      obtain ⟨k', rfl⟩ : ∃ k', k = k' + 1 := ⟨k - 1, by omega⟩
      have h1 := ih i (by omega) (by omega)
      have h2 := ih j (by omega) (by omega)
      have h3 : 2 ^ i ≤ 2 ^ k' := Nat.pow_le_pow_right (by omega) (by omega)
      have h4 : 2 ^ j ≤ 2 ^ k' := Nat.pow_le_pow_right (by omega) (by omega)
      rw [Nat.pow_succ]
      omega
theorem occ_bound {s : List Sy} (w : WF s) (hz : s.length ≤ 61) {k : Nat} (hk : k < s.length) (v : List Nat) : KM.occ v (tx s k) ≤ 2 ^ 60 + 1 := by
  have h1 := occ_le v (tx s k)
  have h2 := tx_bound w k k (Nat.le_refl _) hk
  have h3 : 2 ^ k ≤ 2 ^ 60 := Nat.pow_le_pow_right (by omega) (by omega)
  omega
theorem sum_bound (f : Nat → Nat) (B : Nat) : ∀ ks : List Nat, (∀ k ∈ ks, f k ≤ B) → (ks.map f).sum ≤ ks.length * B
  | [], _ => by simp
  | k :: ks, h => by
    have ih := sum_bound f B ks fun z hz => h z (by simp [hz])
    have := h k (by simp)
    rw [List.map_cons, List.sum_cons, List.length_cons, Nat.add_mul]
    omega
theorem repr_rules {s : List Sy} (wf : WF s) (hz : s.length ≤ 100) {rs : List (Option Nat)} (hr : rs.length ≤ 9) (hin : ∀ k, some k ∈ rs → k < s.length) : ∃ x, reprD [.tuple [sy s, .list (rs.map rtD)]] = some (.str x) := by
  have h1 : Sm (1001 * s.length) 2 (sy s) := by
    have := Sm.list (w := 1000) (dp := 1) (ds := s.map Sy.d) (by
      intro d hd
      obtain ⟨x, hx, rfl⟩ := List.mem_map.mp hd
      exact sm_sy (wf_sml wf (by omega) x hx))
    exact this.mono (by simp) (by omega)
  have h2 : Sm (65 * rs.length) 1 (.list (rs.map rtD)) := by
    have := Sm.list (w := 64) (dp := 0) (ds := rs.map rtD) (by
      intro d hd
      obtain ⟨o, ho, rfl⟩ := List.mem_map.mp hd
      cases o with
      | none => exact Sm.none.mono (by omega) (by omega)
      | some k => exact Sm.int (n := k) (by have := hin k ho; omega))
    exact this.mono (by simp) (by omega)
  have h3 := Sm.tuple (w := 200000) (dp := 2) (ds := [sy s, .list (rs.map rtD)]) (by
    intro d hd
    simp only [List.mem_cons, List.not_mem_nil, or_false] at hd
    rcases hd with rfl | rfl
    · exact h1.mono (by omega) (by omega)
    · exact h2.mono (by omega) (by omega))
  exact ⟨_, h3.repr (by simp) (by omega)⟩
end K67

namespace K67
open PySem PySem.Spec L2 DL
theorem cb_ok {g : List D → Option D} {ms : Env' → Res (List D)} {env : Env'} {l : List D} {d : D} (h : ms env = .ok l) (h2 : g l = some d) : mCB g ms env = .ok d := by
  rw [ap_cb, h, Res.bind_ok, h2]; rfl
theorem cons_ok {m : Env' → Res D} {ms : Env' → Res (List D)} {env : Env'} {d : D} {l : List D} (h : m env = .ok d) (h2 : ms env = .ok l) : aCons m ms env = .ok (d :: l) := by
  rw [ap_cons, h, Res.bind_ok, h2]; rfl
theorem tup_ok {ms : Env' → Res (List D)} {env : Env'} {l : List D} (h : ms env = .ok l) (hz : l.length ≤ 16777216) : mTup ms env = .ok (.tuple l) := by
  rw [ap_tup, h, Res.bind_ok, if_pos (sz_ge hz)]
theorem rp_one (c : Nat) : ∀ n, rp [c] n = List.replicate n c
  | 0 => rfl
  | n + 1 => by rw [rp_succ, rp_one c n, List.replicate_succ]; rfl
theorem s_ba : (("ba" : String) : Str) = txS [98, 97] := by decide +kernel
theorem s_aa : (("aa" : String) : Str) = txS [97, 97] := by decide +kernel
theorem s_bb : (("bb" : String) : Str) = txS [98, 98] := by decide +kernel
theorem pick2 {a b : Nat} {v : Int} : ∃ q, (q = a ∨ q = b) ∧ ixD (.list [.int (a : Nat), .int (b : Nat)]) (.int (v % 2)) = some (.int (q : Nat)) := by
  obtain ⟨k, hk, hk2⟩ := mod_nat v (n := 2) (by omega)
  rw [show ((2 : Nat) : Int) = 2 from rfl] at hk
  rw [hk]
  match k, hk2 with
  | 0, _ => exact ⟨a, .inl rfl, ix_nat (n := 0) rfl⟩
  | 1, _ => exact ⟨b, .inr rfl, ix_nat (n := 1) rfl⟩
theorem neq_nat (n : Nat) : neD (.int (n : Nat)) (.int (n : Nat)) = some (.bool false) := nei (b := true) (decide_eq_true rfl)
abbrev bnl (m : Nat) : D := .list ((List.range (m + 2)).map fun k : Nat => .int (bN k))
theorem bn_get {m k : Nat} (h : k < m + 2) : ((List.range (m + 2)).map fun k : Nat => PyData.int (bN k))[k]? = some (.int (bN k)) := by
  rw [List.getElem?_map, List.getElem?_range h]; rfl
theorem bn_snoc (m : Nat) : ((List.range (m + 2)).map fun k : Nat => PyData.int (bN k)) ++ [.int ((bN (m + 1) : Int) + (bN m : Int))] = (List.range (m + 1 + 2)).map fun k : Nat => PyData.int (bN k) := by
  show _ = (List.range ((m + 2) + 1)).map _
  rw [List.range_succ (n := m + 2), List.map_append]
  rfl
theorem and_v {ma mb : Env' → Res D} {env : Env'} {d : D} (h : ma env = .ok (.bool true)) (h2 : mb env = .ok d) : mAndV ma mb env = .ok d := by
  unfold mAndV
  rw [h, Res.bind_ok, ap_asB, Res.bind_ok, if_pos rfl, h2]
theorem known_ok {xs : List Int} (hx : 201 < xs.length) : m__law_known [li xs] = .ok (.bool true) := by
  suffices H : ∃ x, o__law_known [some (li xs), none, none, none, none, none, none, none, none] = x ∧ x = .rt (.bool true) by
    obtain ⟨x, h1, rfl⟩ := H
    exact run_rt h1
  have z0 : 0 ≤ sizeLine := sz_ge (by omega)
  have z1 : 1 ≤ sizeLine := sz_ge (by omega)
  have z2 : 2 ≤ sizeLine := sz_ge (by omega)
  have z3 : 3 ≤ sizeLine := sz_ge (by omega)
  have z4 : 4 ≤ sizeLine := sz_ge (by omega)
  obtain ⟨v0, hv0⟩ : ∃ v, xs[200]? = some v := ⟨_, List.getElem?_eq_getElem (by omega)⟩
  obtain ⟨v1, hv1⟩ : ∃ v, xs[201]? = some v := ⟨_, List.getElem?_eq_getElem (by omega)⟩
  have x0 := ix_li (i := 200) (n := 200) rfl hv0
  have x1 := ix_li (i := 201) (n := 201) rfl hv1
  obtain ⟨q, hq, pq⟩ := pick2 (a := 199) (b := 498) (v := v1)
  have hq0 : 0 < q := by omega
  have hq1 : q ≤ 498 := by omega
  clear hq
  obtain ⟨l, hl, hl2⟩ := mod_nat v0 hq0
  have pq0 : (0 : Int) < (q : Int) := by omega
  have p2 : (0 : Int) < 2 := by decide
  obtain ⟨M, hM⟩ : ∃ M, M = l + 1 := ⟨_, rfl⟩
  have hM' : 1 + (l : Int) = (M : Int) := by omega
  rw [show ((199 : Nat) : Int) = 199 from rfl, show ((498 : Nat) : Int) = 498 from rfl] at pq
  refine seq_ex (e := [some (li xs), some (.int M), none, none, none, none, none, none, none]) ?_ ?_
  · simp only [ap_var, ap_c, ap_m1, ap_m2, ap_m3, ap_part, ap_nopart, ap_if, ap_isN, ap_notN, ap_list, ap_tup, ap_nil, ap_cons, ap_cb, ap_m1m, ap_chain, ap_isi, ap_mB, ap_asB, ap_and, ap_or, ap_not, ap_yes, ap_call, ap_lc, ap_noX, ap_iseq, ap_iown, ap_seq, th_nx, th_rt, th_exc, ap_skip, ap_set, ap_asg, ap_aug, ap_lm, ap_put, ap_oif, ap_ret, ap_drop, ap_raise, ap_gN, ap_gT, ap_gsN, ap_gsC, ap_app, Res.bind_ok, Res.bind_exc, Res.of_some, exOut_ok, exOut_exc, wipeE, Option.bind_some, List.length_cons, List.length_nil, List.getElem?_cons_zero, List.getElem?_cons_succ, List.set_cons_zero, List.set_cons_succ, List.map_cons, List.map_nil, add_ii, sub_ii, cmpI, negD, modD, ap_lenL, ap_lenT, intD, int1, int2, walkD, if_true, if_false, decide_eq_true_eq, Bool.false_eq_true, reduceIte, Nat.reduceAdd, Nat.reduceSub, List.replicate_succ, List.replicate_zero, List.cons_append, List.nil_append, x0, x1, p2, z2, pq, pq0, hl, hM']
  -- a, doubled
  refine seq_ex (e := [some (li xs), some (.int M), some (.tuple [sy (pwa M), .list ([some M].map rtD)]), none, none, none, none, none, none]) ?_ ?_
  · refine (set_ok ?_).trans rfl
    have h1 := lc_rng (mi := iRange (aCons (mVar 1) aNil)) (v := 8) (m := mTup (aCons (mC (.str ("pair" : String))) (aCons (mVar 8) (aCons (mVar 8) aNil)))) (vs := [8]) (env := [some (li xs), some (.int M), none, none, none, none, none, none, none]) (lo := 0) (n := M) (fun k : Nat => .tuple [.str ("pair" : String), .int (k : Int), .int k])
      (irange_ok (l := [.int M]) (by simp only [ap_var, ap_c, ap_m1, ap_m2, ap_m3, ap_part, ap_nopart, ap_if, ap_isN, ap_notN, ap_list, ap_tup, ap_nil, ap_cons, ap_cb, ap_m1m, ap_chain, ap_isi, ap_mB, ap_asB, ap_and, ap_or, ap_not, ap_yes, ap_call, ap_lc, ap_noX, ap_iseq, ap_iown, ap_seq, th_nx, th_rt, th_exc, ap_skip, ap_set, ap_asg, ap_aug, ap_lm, ap_put, ap_oif, ap_ret, ap_drop, ap_raise, ap_gN, ap_gT, ap_gsN, ap_gsC, ap_app, Res.bind_ok, Res.bind_exc, Res.of_some, exOut_ok, exOut_exc, wipeE, Option.bind_some, List.length_cons, List.length_nil, List.getElem?_cons_zero, List.getElem?_cons_succ, List.set_cons_zero, List.set_cons_succ, List.map_cons, List.map_nil, add_ii, sub_ii, cmpI, negD, modD, ap_lenL, ap_lenT, intD, int1, int2, walkD, if_true, if_false, decide_eq_true_eq, Bool.false_eq_true, reduceIte, Nat.reduceAdd, Nat.reduceSub, List.replicate_succ, List.replicate_zero, List.cons_append, List.nil_append]) (range1 (by omega))) (by omega) (fun k hk => by
        rw [Int.zero_add]
        simp only [ap_var, ap_c, ap_m1, ap_m2, ap_m3, ap_part, ap_nopart, ap_if, ap_isN, ap_notN, ap_list, ap_tup, ap_nil, ap_cons, ap_cb, ap_m1m, ap_chain, ap_isi, ap_mB, ap_asB, ap_and, ap_or, ap_not, ap_yes, ap_call, ap_lc, ap_noX, ap_iseq, ap_iown, ap_seq, th_nx, th_rt, th_exc, ap_skip, ap_set, ap_asg, ap_aug, ap_lm, ap_put, ap_oif, ap_ret, ap_drop, ap_raise, ap_gN, ap_gT, ap_gsN, ap_gsC, ap_app, Res.bind_ok, Res.bind_exc, Res.of_some, exOut_ok, exOut_exc, wipeE, Option.bind_some, List.length_cons, List.length_nil, List.getElem?_cons_zero, List.getElem?_cons_succ, List.set_cons_zero, List.set_cons_succ, List.map_cons, List.map_nil, add_ii, sub_ii, cmpI, negD, modD, ap_lenL, ap_lenT, intD, int1, int2, walkD, if_true, if_false, decide_eq_true_eq, Bool.false_eq_true, reduceIte, Nat.reduceAdd, Nat.reduceSub, List.replicate_succ, List.replicate_zero, List.cons_append, List.nil_append, z3])
    have h2 : (mList (aCons (mTup (aCons (mC (.str ("letter" : String))) (aCons (mC (.str ("a" : String))) aNil))) aNil)) [some (li xs), some (.int M), none, none, none, none, none, none, none] = .ok (.list [Sy.d (.L 97)]) := by
      rw [s_a]
      simp only [ap_var, ap_c, ap_m1, ap_m2, ap_m3, ap_part, ap_nopart, ap_if, ap_isN, ap_notN, ap_list, ap_tup, ap_nil, ap_cons, ap_cb, ap_m1m, ap_chain, ap_isi, ap_mB, ap_asB, ap_and, ap_or, ap_not, ap_yes, ap_call, ap_lc, ap_noX, ap_iseq, ap_iown, ap_seq, th_nx, th_rt, th_exc, ap_skip, ap_set, ap_asg, ap_aug, ap_lm, ap_put, ap_oif, ap_ret, ap_drop, ap_raise, ap_gN, ap_gT, ap_gsN, ap_gsC, ap_app, Res.bind_ok, Res.bind_exc, Res.of_some, exOut_ok, exOut_exc, wipeE, Option.bind_some, List.length_cons, List.length_nil, List.getElem?_cons_zero, List.getElem?_cons_succ, List.set_cons_zero, List.set_cons_succ, List.map_cons, List.map_nil, add_ii, sub_ii, cmpI, negD, modD, ap_lenL, ap_lenT, intD, int1, int2, walkD, if_true, if_false, decide_eq_true_eq, Bool.false_eq_true, reduceIte, Nat.reduceAdd, Nat.reduceSub, List.replicate_succ, List.replicate_zero, List.cons_append, List.nil_append, z1, z2]
      rfl
    have h3 := m2_ok (f := addD) h2 h1 (addL (sz_ge (by simp; omega)))
    rw [← pwa_d] at h3
    have h4 : (mList (aCons (mVar 1) aNil)) [some (li xs), some (.int M), none, none, none, none, none, none, none] = .ok (.list ([some M].map rtD)) := by
      simp only [ap_var, ap_c, ap_m1, ap_m2, ap_m3, ap_part, ap_nopart, ap_if, ap_isN, ap_notN, ap_list, ap_tup, ap_nil, ap_cons, ap_cb, ap_m1m, ap_chain, ap_isi, ap_mB, ap_asB, ap_and, ap_or, ap_not, ap_yes, ap_call, ap_lc, ap_noX, ap_iseq, ap_iown, ap_seq, th_nx, th_rt, th_exc, ap_skip, ap_set, ap_asg, ap_aug, ap_lm, ap_put, ap_oif, ap_ret, ap_drop, ap_raise, ap_gN, ap_gT, ap_gsN, ap_gsC, ap_app, Res.bind_ok, Res.bind_exc, Res.of_some, exOut_ok, exOut_exc, wipeE, Option.bind_some, List.length_cons, List.length_nil, List.getElem?_cons_zero, List.getElem?_cons_succ, List.set_cons_zero, List.set_cons_succ, List.map_cons, List.map_nil, add_ii, sub_ii, cmpI, negD, modD, ap_lenL, ap_lenT, intD, int1, int2, walkD, if_true, if_false, decide_eq_true_eq, Bool.false_eq_true, reduceIte, Nat.reduceAdd, Nat.reduceSub, List.replicate_succ, List.replicate_zero, List.cons_append, List.nil_append, z1]
      rfl
    exact tup_ok (cons_ok h3 (cons_ok h4 ap_nil)) (by show 2 ≤ 16777216; omega)
  have lp := pwa_len M
  have pk := power_ok (n := M) (by omega)
  have pk1 := power_ok (n := M - 1) (by omega)
  rw [show ((M - 1 : Nat) : Int) = (M : Int) - 1 by omega] at pk1
  refine seq_for (fun _ e => ∃ j3, e = [some (li xs), some (.int M), some (.tuple [sy (pwa M), .list ([some M].map rtD)]), j3, none, none, none, none, none]) [.int 1, .int 2, .int 3, .int 12] ?_ ⟨none, rfl⟩ ?_ ?_
  · simp only [ap_var, ap_c, ap_m1, ap_m2, ap_m3, ap_part, ap_nopart, ap_if, ap_isN, ap_notN, ap_list, ap_tup, ap_nil, ap_cons, ap_cb, ap_m1m, ap_chain, ap_isi, ap_mB, ap_asB, ap_and, ap_or, ap_not, ap_yes, ap_call, ap_lc, ap_noX, ap_iseq, ap_iown, ap_seq, th_nx, th_rt, th_exc, ap_skip, ap_set, ap_asg, ap_aug, ap_lm, ap_put, ap_oif, ap_ret, ap_drop, ap_raise, ap_gN, ap_gT, ap_gsN, ap_gsC, ap_app, Res.bind_ok, Res.bind_exc, Res.of_some, exOut_ok, exOut_exc, wipeE, Option.bind_some, List.length_cons, List.length_nil, List.getElem?_cons_zero, List.getElem?_cons_succ, List.set_cons_zero, List.set_cons_succ, List.map_cons, List.map_nil, add_ii, sub_ii, cmpI, negD, modD, ap_lenL, ap_lenT, intD, int1, int2, walkD, if_true, if_false, decide_eq_true_eq, Bool.false_eq_true, reduceIte, Nat.reduceAdd, Nat.reduceSub, List.replicate_succ, List.replicate_zero, List.cons_append, List.nil_append, z4]
  · rintro i d e0 hd ⟨j3, rfl⟩
    have hd2 : ∃ n : Nat, 0 < n ∧ n ≤ 12 ∧ d = .int n := by
      have := List.mem_of_getElem? hd
      simp only [List.mem_cons, List.not_mem_nil, or_false] at this
      rcases this with rfl | rfl | rfl | rfl
      · exact ⟨1, by omega, by omega, rfl⟩
      · exact ⟨2, by omega, by omega, rfl⟩
      · exact ⟨3, by omega, by omega, rfl⟩
      · exact ⟨12, by omega, by omega, rfl⟩
    obtain ⟨n, hn, hn2, rfl⟩ := hd2
    have hmul := mul_tx (T := [97]) (by decide) (n := n) (by omega)
    rw [rp_one, ← s_a] at hmul
    have hc := count_of_ok (pwa_wf M) (by omega) (rs := [some M]) (by show 1 ≤ 1000; omega) (fun k hk => by simp at hk; omega) (w := List.replicate n 97) (by simp; omega)
    have hct : ((([some M] : List (Option Nat)).filterMap id).map fun k => KM.ct (List.replicate n 97) 0 (tx (pwa M) k)).sum = 2 ^ M + 1 - n := by
      show KM.ct (List.replicate n 97) 0 (tx (pwa M) M) + 0 = _
      rw [pwa_tx M M (Nat.le_refl _), ← KM.occ_ct (by simp; omega), occ_rep hn]
      rfl
    rw [hct] at hc
    refine ⟨_, [some (li xs), some (.int M), some (.tuple [sy (pwa M), .list ([some M].map rtD)]), some (.int n), none, none, none, none, none], rfl, ?_, _, rfl⟩
    have e0 := m2_ok (f := mulG) (ma := mC (.str ("a" : String))) (mb := mVar 3) (env := [some (li xs), some (.int M), some (.tuple [sy (pwa M), .list ([some M].map rtD)]), some (.int n), none, none, none, none, none]) ap_c (var_ok rfl) hmul
    have e1 := call_ok (mf := m_count_of) (cons_ok (m := mVar 2) (var_ok rfl) (cons_ok e0 ap_nil)) hc
    have e2 := call_ok (mf := m__law_power) (cons_ok (m := mVar 1) (env := [some (li xs), some (.int M), some (.tuple [sy (pwa M), .list ([some M].map rtD)]), some (.int n), none, none, none, none, none]) (var_ok rfl) ap_nil) pk
    have e3 := m2_ok (f := subD) (mb := mVar 3) e2 (var_ok rfl) sub_ii
    have e4 := m2_ok (f := addD) (mb := mC (.int 1)) e3 ap_c add_ii
    have hmx : maxD [.int 0, .int (((2 ^ M : Nat) : Int) - (n : Int) + 1)] = some (.int ((2 ^ M + 1 - n : Nat) : Int)) := by
      have : (if (((2 ^ M : Nat) : Int) - (n : Int) + 1) > 0 then (((2 ^ M : Nat) : Int) - (n : Int) + 1) else 0) = ((2 ^ M + 1 - n : Nat) : Int) := by split <;> omega
      rw [← this]
      rfl
    have e5 := cb_ok (cons_ok (m := mC (.int 0)) ap_c (cons_ok e4 ap_nil)) hmx
    have e6 := m2_ok (f := neD) e1 e5 (neq_nat _)
    have e7 := b_ok e6
    exact seq_nx (oif_f e7) rfl
  rintro e ⟨j3, rfl⟩
  -- ab, doubled
  refine seq_ex (e := [some (li xs), some (.int M), some (.tuple [sy (pwa M), .list ([some M].map rtD)]), j3, some (.tuple [sy (pab (M - 1)), .list ([some (M + 1)].map rtD)]), none, none, none, none]) ?_ ?_
  · refine (set_ok ?_).trans rfl
    have h1 := lc_rng (mi := iRangeG (aCons (mC (.int 2)) (aCons (m2 subD (m2 addD (mC (.int 2)) (mVar 1)) (mC (.int 1))) aNil))) (v := 8) (m := mTup (aCons (mC (.str ("pair" : String))) (aCons (mVar 8) (aCons (mVar 8) aNil)))) (vs := [8]) (env := [some (li xs), some (.int M), some (.tuple [sy (pwa M), .list ([some M].map rtD)]), j3, none, none, none, none, none]) (lo := 2) (n := M - 1) (fun k : Nat => .tuple [.str ("pair" : String), .int (2 + (k : Int)), .int (2 + (k : Int))])
      (irangeG_ok (i := 2) (j := 2 + (M : Int) - 1) (by simp only [ap_var, ap_c, ap_m1, ap_m2, ap_m3, ap_part, ap_nopart, ap_if, ap_isN, ap_notN, ap_list, ap_tup, ap_nil, ap_cons, ap_cb, ap_m1m, ap_chain, ap_isi, ap_mB, ap_asB, ap_and, ap_or, ap_not, ap_yes, ap_call, ap_lc, ap_noX, ap_iseq, ap_iown, ap_seq, th_nx, th_rt, th_exc, ap_skip, ap_set, ap_asg, ap_aug, ap_lm, ap_put, ap_oif, ap_ret, ap_drop, ap_raise, ap_gN, ap_gT, ap_gsN, ap_gsC, ap_app, Res.bind_ok, Res.bind_exc, Res.of_some, exOut_ok, exOut_exc, wipeE, Option.bind_some, List.length_cons, List.length_nil, List.getElem?_cons_zero, List.getElem?_cons_succ, List.set_cons_zero, List.set_cons_succ, List.map_cons, List.map_nil, add_ii, sub_ii, cmpI, negD, modD, ap_lenL, ap_lenT, intD, int1, int2, walkD, if_true, if_false, decide_eq_true_eq, Bool.false_eq_true, reduceIte, Nat.reduceAdd, Nat.reduceSub, List.replicate_succ, List.replicate_zero, List.cons_append, List.nil_append]) (by omega)) (by omega) (fun k hk => by
        simp only [ap_var, ap_c, ap_m1, ap_m2, ap_m3, ap_part, ap_nopart, ap_if, ap_isN, ap_notN, ap_list, ap_tup, ap_nil, ap_cons, ap_cb, ap_m1m, ap_chain, ap_isi, ap_mB, ap_asB, ap_and, ap_or, ap_not, ap_yes, ap_call, ap_lc, ap_noX, ap_iseq, ap_iown, ap_seq, th_nx, th_rt, th_exc, ap_skip, ap_set, ap_asg, ap_aug, ap_lm, ap_put, ap_oif, ap_ret, ap_drop, ap_raise, ap_gN, ap_gT, ap_gsN, ap_gsC, ap_app, Res.bind_ok, Res.bind_exc, Res.of_some, exOut_ok, exOut_exc, wipeE, Option.bind_some, List.length_cons, List.length_nil, List.getElem?_cons_zero, List.getElem?_cons_succ, List.set_cons_zero, List.set_cons_succ, List.map_cons, List.map_nil, add_ii, sub_ii, cmpI, negD, modD, ap_lenL, ap_lenT, intD, int1, int2, walkD, if_true, if_false, decide_eq_true_eq, Bool.false_eq_true, reduceIte, Nat.reduceAdd, Nat.reduceSub, List.replicate_succ, List.replicate_zero, List.cons_append, List.nil_append, z3])
    have h2 : (mList (aCons (mTup (aCons (mC (.str ("letter" : String))) (aCons (mC (.str ("a" : String))) aNil))) (aCons (mTup (aCons (mC (.str ("letter" : String))) (aCons (mC (.str ("b" : String))) aNil))) (aCons (mTup (aCons (mC (.str ("pair" : String))) (aCons (mC (.int 0)) (aCons (mC (.int 1)) aNil)))) aNil)))) [some (li xs), some (.int M), some (.tuple [sy (pwa M), .list ([some M].map rtD)]), j3, none, none, none, none, none] = .ok (.list [Sy.d (.L 97), Sy.d (.L 98), Sy.d (.P 0 1)]) := by
      rw [s_a, s_b]
      simp only [ap_var, ap_c, ap_m1, ap_m2, ap_m3, ap_part, ap_nopart, ap_if, ap_isN, ap_notN, ap_list, ap_tup, ap_nil, ap_cons, ap_cb, ap_m1m, ap_chain, ap_isi, ap_mB, ap_asB, ap_and, ap_or, ap_not, ap_yes, ap_call, ap_lc, ap_noX, ap_iseq, ap_iown, ap_seq, th_nx, th_rt, th_exc, ap_skip, ap_set, ap_asg, ap_aug, ap_lm, ap_put, ap_oif, ap_ret, ap_drop, ap_raise, ap_gN, ap_gT, ap_gsN, ap_gsC, ap_app, Res.bind_ok, Res.bind_exc, Res.of_some, exOut_ok, exOut_exc, wipeE, Option.bind_some, List.length_cons, List.length_nil, List.getElem?_cons_zero, List.getElem?_cons_succ, List.set_cons_zero, List.set_cons_succ, List.map_cons, List.map_nil, add_ii, sub_ii, cmpI, negD, modD, ap_lenL, ap_lenT, intD, int1, int2, walkD, if_true, if_false, decide_eq_true_eq, Bool.false_eq_true, reduceIte, Nat.reduceAdd, Nat.reduceSub, List.replicate_succ, List.replicate_zero, List.cons_append, List.nil_append, z2, z3]
      rfl
    have h3 := m2_ok (f := addD) h2 h1 (addL (sz_ge (by simp; omega)))
    rw [← pab_d] at h3
    have h4 : (mList (aCons (m2 addD (mVar 1) (mC (.int 1))) aNil)) [some (li xs), some (.int M), some (.tuple [sy (pwa M), .list ([some M].map rtD)]), j3, none, none, none, none, none] = .ok (.list ([some (M + 1)].map rtD)) := by
      simp only [ap_var, ap_c, ap_m1, ap_m2, ap_m3, ap_part, ap_nopart, ap_if, ap_isN, ap_notN, ap_list, ap_tup, ap_nil, ap_cons, ap_cb, ap_m1m, ap_chain, ap_isi, ap_mB, ap_asB, ap_and, ap_or, ap_not, ap_yes, ap_call, ap_lc, ap_noX, ap_iseq, ap_iown, ap_seq, th_nx, th_rt, th_exc, ap_skip, ap_set, ap_asg, ap_aug, ap_lm, ap_put, ap_oif, ap_ret, ap_drop, ap_raise, ap_gN, ap_gT, ap_gsN, ap_gsC, ap_app, Res.bind_ok, Res.bind_exc, Res.of_some, exOut_ok, exOut_exc, wipeE, Option.bind_some, List.length_cons, List.length_nil, List.getElem?_cons_zero, List.getElem?_cons_succ, List.set_cons_zero, List.set_cons_succ, List.map_cons, List.map_nil, add_ii, sub_ii, cmpI, negD, modD, ap_lenL, ap_lenT, intD, int1, int2, walkD, if_true, if_false, decide_eq_true_eq, Bool.false_eq_true, reduceIte, Nat.reduceAdd, Nat.reduceSub, List.replicate_succ, List.replicate_zero, List.cons_append, List.nil_append, z1]
      rfl
    exact tup_ok (cons_ok h3 (cons_ok h4 ap_nil)) (by show 2 ≤ 16777216; omega)
  have lb := pab_len (M - 1)
  have tb : tx (pab (M - 1)) (M + 1) = abT (M - 1) := by rw [show M + 1 = M - 1 + 2 by omega, pab_tx]
  have hcb : ∀ w : List Nat, w.length ≤ 1000 → m_count_of [.tuple [sy (pab (M - 1)), .list ([some (M + 1)].map rtD)], .str (txS w)] = .ok (.int (KM.ct w 0 (abT (M - 1)) : Nat)) := by
    intro w hw
    have := count_of_ok (pab_wf (M - 1)) (by omega) (rs := [some (M + 1)]) (by show 1 ≤ 1000; omega) (fun k hk => by simp at hk; omega) (w := w) hw
    rw [show ((([some (M + 1)] : List (Option Nat)).filterMap id).map fun k => KM.ct w 0 (tx (pab (M - 1)) k)).sum = KM.ct w 0 (tx (pab (M - 1)) (M + 1)) from rfl, tb] at this
    exact this
  refine seq_ex (e := [some (li xs), some (.int M), some (.tuple [sy (pwa M), .list ([some M].map rtD)]), j3, some (.tuple [sy (pab (M - 1)), .list ([some (M + 1)].map rtD)]), none, none, none, none]) ?_ ?_
  · have c1 := hcb [97, 98] (by decide)
    have c2 := hcb [98, 97] (by decide)
    have c3 := hcb [97, 97] (by decide)
    rw [(ab_ab (M - 1) 0 (by decide)).2, ← s_ab] at c1
    have hba := (ab_ba (M - 1)).2.2.1
    rw [(ab_aa (M - 1)).2, ← s_aa] at c3
    rw [← s_ba] at c2
    have E : ∀ (x : Str) (d : D), m_count_of [.tuple [sy (pab (M - 1)), .list ([some (M + 1)].map rtD)], .str x] = .ok d → (mCall m_count_of (aCons (mVar 4) (aCons (mC (.str x)) aNil))) [some (li xs), some (.int M), some (.tuple [sy (pwa M), .list ([some M].map rtD)]), j3, some (.tuple [sy (pab (M - 1)), .list ([some (M + 1)].map rtD)]), none, none, none, none] = .ok d := fun x d h => call_ok (cons_ok (var_ok rfl) (cons_ok ap_c ap_nil)) h
    have f0 := m2_ok (f := subD) (ma := mVar 1) (mb := mC (.int 1)) (env := [some (li xs), some (.int M), some (.tuple [sy (pwa M), .list ([some M].map rtD)]), j3, some (.tuple [sy (pab (M - 1)), .list ([some (M + 1)].map rtD)]), none, none, none, none]) (var_ok rfl) ap_c sub_ii
    have f1 := call_ok (mf := m__law_power) (cons_ok f0 ap_nil) pk1
    have f2 := m2_ok (f := subD) (mb := mC (.int 1)) f1 ap_c sub_ii
    have g1 := m2_ok (f := neD) (E _ _ c1) f1 (neq_nat _)
    have g2 := m2_ok (f := neD) (E _ _ c2) f2 (nei (b := true) (decide_eq_true (by omega)))
    have g3 := m2_ok (f := neD) (mb := mC (.int 0)) (E _ _ c3) ap_c (neq_nat 0)
    have g4 := or_f (b_ok g2) (b_ok g3)
    have g5 := or_f (b_ok g1) g4
    exact oif_f g5
  -- grown words
  refine seq_ex (e := [some (li xs), some (.int M), some (.tuple [sy (pwa M), .list ([some M].map rtD)]), j3, some (.tuple [sy (pab (M - 1)), .list ([some (M + 1)].map rtD)]), some (sy (fbs (M - 1))), none, none, none]) ?_ ?_
  · refine (set_ok ?_).trans rfl
    have h1 := lc_rng (mi := iRange (aCons (m2 subD (mVar 1) (mC (.int 1))) aNil)) (v := 8) (m := mTup (aCons (mC (.str ("pair" : String))) (aCons (m2 addD (mVar 8) (mC (.int 1))) (aCons (mVar 8) aNil)))) (vs := [8]) (env := [some (li xs), some (.int M), some (.tuple [sy (pwa M), .list ([some M].map rtD)]), j3, some (.tuple [sy (pab (M - 1)), .list ([some (M + 1)].map rtD)]), none, none, none, none]) (lo := 0) (n := M - 1) (fun k : Nat => .tuple [.str ("pair" : String), .int ((k : Int) + 1), .int k])
      (irange_ok (l := [.int ((M : Int) - 1)]) (by simp only [ap_var, ap_c, ap_m1, ap_m2, ap_m3, ap_part, ap_nopart, ap_if, ap_isN, ap_notN, ap_list, ap_tup, ap_nil, ap_cons, ap_cb, ap_m1m, ap_chain, ap_isi, ap_mB, ap_asB, ap_and, ap_or, ap_not, ap_yes, ap_call, ap_lc, ap_noX, ap_iseq, ap_iown, ap_seq, th_nx, th_rt, th_exc, ap_skip, ap_set, ap_asg, ap_aug, ap_lm, ap_put, ap_oif, ap_ret, ap_drop, ap_raise, ap_gN, ap_gT, ap_gsN, ap_gsC, ap_app, Res.bind_ok, Res.bind_exc, Res.of_some, exOut_ok, exOut_exc, wipeE, Option.bind_some, List.length_cons, List.length_nil, List.getElem?_cons_zero, List.getElem?_cons_succ, List.set_cons_zero, List.set_cons_succ, List.map_cons, List.map_nil, add_ii, sub_ii, cmpI, negD, modD, ap_lenL, ap_lenT, intD, int1, int2, walkD, if_true, if_false, decide_eq_true_eq, Bool.false_eq_true, reduceIte, Nat.reduceAdd, Nat.reduceSub, List.replicate_succ, List.replicate_zero, List.cons_append, List.nil_append]) (range_i (by unfold small62; omega) (by omega))) (by omega) (fun k hk => by
        rw [Int.zero_add]
        simp only [ap_var, ap_c, ap_m1, ap_m2, ap_m3, ap_part, ap_nopart, ap_if, ap_isN, ap_notN, ap_list, ap_tup, ap_nil, ap_cons, ap_cb, ap_m1m, ap_chain, ap_isi, ap_mB, ap_asB, ap_and, ap_or, ap_not, ap_yes, ap_call, ap_lc, ap_noX, ap_iseq, ap_iown, ap_seq, th_nx, th_rt, th_exc, ap_skip, ap_set, ap_asg, ap_aug, ap_lm, ap_put, ap_oif, ap_ret, ap_drop, ap_raise, ap_gN, ap_gT, ap_gsN, ap_gsC, ap_app, Res.bind_ok, Res.bind_exc, Res.of_some, exOut_ok, exOut_exc, wipeE, Option.bind_some, List.length_cons, List.length_nil, List.getElem?_cons_zero, List.getElem?_cons_succ, List.set_cons_zero, List.set_cons_succ, List.map_cons, List.map_nil, add_ii, sub_ii, cmpI, negD, modD, ap_lenL, ap_lenT, intD, int1, int2, walkD, if_true, if_false, decide_eq_true_eq, Bool.false_eq_true, reduceIte, Nat.reduceAdd, Nat.reduceSub, List.replicate_succ, List.replicate_zero, List.cons_append, List.nil_append, z3])
    have h2 : (mList (aCons (mTup (aCons (mC (.str ("letter" : String))) (aCons (mC (.str ("b" : String))) aNil))) (aCons (mTup (aCons (mC (.str ("letter" : String))) (aCons (mC (.str ("a" : String))) aNil))) aNil))) [some (li xs), some (.int M), some (.tuple [sy (pwa M), .list ([some M].map rtD)]), j3, some (.tuple [sy (pab (M - 1)), .list ([some (M + 1)].map rtD)]), none, none, none, none] = .ok (.list [Sy.d (.L 98), Sy.d (.L 97)]) := by
      rw [s_a, s_b]
      simp only [ap_var, ap_c, ap_m1, ap_m2, ap_m3, ap_part, ap_nopart, ap_if, ap_isN, ap_notN, ap_list, ap_tup, ap_nil, ap_cons, ap_cb, ap_m1m, ap_chain, ap_isi, ap_mB, ap_asB, ap_and, ap_or, ap_not, ap_yes, ap_call, ap_lc, ap_noX, ap_iseq, ap_iown, ap_seq, th_nx, th_rt, th_exc, ap_skip, ap_set, ap_asg, ap_aug, ap_lm, ap_put, ap_oif, ap_ret, ap_drop, ap_raise, ap_gN, ap_gT, ap_gsN, ap_gsC, ap_app, Res.bind_ok, Res.bind_exc, Res.of_some, exOut_ok, exOut_exc, wipeE, Option.bind_some, List.length_cons, List.length_nil, List.getElem?_cons_zero, List.getElem?_cons_succ, List.set_cons_zero, List.set_cons_succ, List.map_cons, List.map_nil, add_ii, sub_ii, cmpI, negD, modD, ap_lenL, ap_lenT, intD, int1, int2, walkD, if_true, if_false, decide_eq_true_eq, Bool.false_eq_true, reduceIte, Nat.reduceAdd, Nat.reduceSub, List.replicate_succ, List.replicate_zero, List.cons_append, List.nil_append, z2]
      rfl
    have h3 := m2_ok (f := addD) h2 h1 (addL (sz_ge (by simp; omega)))
    rw [← fbs_d] at h3
    exact h3
  have lf := fbs_len (M - 1)
  have tf : tx (fbs (M - 1)) M = fbT M := fbs_tx (M - 1) M (by omega)
  refine seq_ex (e := [some (li xs), some (.int M), some (.tuple [sy (pwa M), .list ([some M].map rtD)]), j3, some (.tuple [sy (pab (M - 1)), .list ([some (M + 1)].map rtD)]), some (sy (fbs (M - 1))), some (bnl 0), none, none]) ?_ ?_
  · simp only [ap_var, ap_c, ap_m1, ap_m2, ap_m3, ap_part, ap_nopart, ap_if, ap_isN, ap_notN, ap_list, ap_tup, ap_nil, ap_cons, ap_cb, ap_m1m, ap_chain, ap_isi, ap_mB, ap_asB, ap_and, ap_or, ap_not, ap_yes, ap_call, ap_lc, ap_noX, ap_iseq, ap_iown, ap_seq, th_nx, th_rt, th_exc, ap_skip, ap_set, ap_asg, ap_aug, ap_lm, ap_put, ap_oif, ap_ret, ap_drop, ap_raise, ap_gN, ap_gT, ap_gsN, ap_gsC, ap_app, Res.bind_ok, Res.bind_exc, Res.of_some, exOut_ok, exOut_exc, wipeE, Option.bind_some, List.length_cons, List.length_nil, List.getElem?_cons_zero, List.getElem?_cons_succ, List.set_cons_zero, List.set_cons_succ, List.map_cons, List.map_nil, add_ii, sub_ii, cmpI, negD, modD, ap_lenL, ap_lenT, intD, int1, int2, walkD, if_true, if_false, decide_eq_true_eq, Bool.false_eq_true, reduceIte, Nat.reduceAdd, Nat.reduceSub, List.replicate_succ, List.replicate_zero, List.cons_append, List.nil_append, z2]
    rfl
  refine seq_for (fun m e => ∃ j7, e = [some (li xs), some (.int M), some (.tuple [sy (pwa M), .list ([some M].map rtD)]), j3, some (.tuple [sy (pab (M - 1)), .list ([some (M + 1)].map rtD)]), some (sy (fbs (M - 1))), some (bnl m), j7, none]) (rng 2 (M - 1)) ?_ ⟨none, rfl⟩ ?_ ?_
  · refine irangeG_ok (j := ((M + 1 : Nat) : Int)) ?_ (by omega)
    have : ((fbs (M - 1)).length : Int) = ((M + 1 : Nat) : Int) := by omega
    simp only [ap_var, ap_c, ap_m1, ap_m2, ap_m3, ap_part, ap_nopart, ap_if, ap_isN, ap_notN, ap_list, ap_tup, ap_nil, ap_cons, ap_cb, ap_m1m, ap_chain, ap_isi, ap_mB, ap_asB, ap_and, ap_or, ap_not, ap_yes, ap_call, ap_lc, ap_noX, ap_iseq, ap_iown, ap_seq, th_nx, th_rt, th_exc, ap_skip, ap_set, ap_asg, ap_aug, ap_lm, ap_put, ap_oif, ap_ret, ap_drop, ap_raise, ap_gN, ap_gT, ap_gsN, ap_gsC, ap_app, Res.bind_ok, Res.bind_exc, Res.of_some, exOut_ok, exOut_exc, wipeE, Option.bind_some, List.length_cons, List.length_nil, List.getElem?_cons_zero, List.getElem?_cons_succ, List.set_cons_zero, List.set_cons_succ, List.map_cons, List.map_nil, add_ii, sub_ii, cmpI, negD, modD, ap_lenL, ap_lenT, intD, int1, int2, walkD, if_true, if_false, decide_eq_true_eq, Bool.false_eq_true, reduceIte, Nat.reduceAdd, Nat.reduceSub, List.replicate_succ, List.replicate_zero, List.cons_append, List.nil_append, List.length_map, this]
  · rintro m d e0 hd ⟨j7, rfl⟩
    rw [rng_get] at hd
    split at hd <;> cases hd
    rename_i hm
    have f1 : ixD (bnl m) (.int (2 + (m : Int) - 1)) = some (.int (bN (m + 1))) := ix_int (n := m + 1) (by omega) (bn_get (by omega))
    have f2 : ixD (bnl m) (.int (2 + (m : Int) - 2)) = some (.int (bN m)) := ix_int (n := m) (by omega) (bn_get (by omega))
    have hz : ((List.range (m + 2)).map fun k : Nat => PyData.int (bN k)).length < sizeLine := sz_gt (by simp; omega)
    refine ⟨_, [some (li xs), some (.int M), some (.tuple [sy (pwa M), .list ([some M].map rtD)]), j3, some (.tuple [sy (pab (M - 1)), .list ([some (M + 1)].map rtD)]), some (sy (fbs (M - 1))), some (bnl (m + 1)), some (.int (2 + (m : Int))), none], rfl, ?_, _, rfl⟩
    have hf : bnl (m + 1) = .list (((List.range (m + 2)).map fun k : Nat => PyData.int (bN k)) ++ [.int ((bN (m + 1) : Int) + (bN m : Int))]) := by rw [bn_snoc]
    rw [hf]
    simp only [ap_var, ap_c, ap_m1, ap_m2, ap_m3, ap_part, ap_nopart, ap_if, ap_isN, ap_notN, ap_list, ap_tup, ap_nil, ap_cons, ap_cb, ap_m1m, ap_chain, ap_isi, ap_mB, ap_asB, ap_and, ap_or, ap_not, ap_yes, ap_call, ap_lc, ap_noX, ap_iseq, ap_iown, ap_seq, th_nx, th_rt, th_exc, ap_skip, ap_set, ap_asg, ap_aug, ap_lm, ap_put, ap_oif, ap_ret, ap_drop, ap_raise, ap_gN, ap_gT, ap_gsN, ap_gsC, ap_app, Res.bind_ok, Res.bind_exc, Res.of_some, exOut_ok, exOut_exc, wipeE, Option.bind_some, List.length_cons, List.length_nil, List.getElem?_cons_zero, List.getElem?_cons_succ, List.set_cons_zero, List.set_cons_succ, List.map_cons, List.map_nil, add_ii, sub_ii, cmpI, negD, modD, ap_lenL, ap_lenT, intD, int1, int2, walkD, if_true, if_false, decide_eq_true_eq, Bool.false_eq_true, reduceIte, Nat.reduceAdd, Nat.reduceSub, List.replicate_succ, List.replicate_zero, List.cons_append, List.nil_append, f1, f2, hz]
  rintro e ⟨j7, rfl⟩
  rw [rng_len]
  refine ⟨_, ?_, rfl⟩
  have c1 := count_ok (fbs_wf (M - 1)) (by omega) (R := .list []) (w := [98]) (by decide) (k := M) (by omega)
  have c2 := count_ok (fbs_wf (M - 1)) (by omega) (R := .list []) (w := [98, 98]) (by decide) (k := M) (by omega)
  rw [tf, (fb_b2 M).1, ← s_b] at c1
  rw [tf, fb_bb, ← s_bb] at c2
  have hlen : ((fbs (M - 1)).length : Int) - 1 = (M : Int) := by omega
  have hlast : ixD (bnl (M - 1)) (.int (-1)) = some (.int (bN M)) := ix_neg (n := 0) rfl (by simp) (by
    simp only [List.length_map, List.length_range]
    rw [show M - 1 + 2 - 1 - 0 = M by omega]
    exact bn_get (by omega))
  have hl0 : (m2 subD (mCB lenD (aCons (mVar 5) aNil)) (mC (.int 1))) [some (li xs), some (.int M), some (.tuple [sy (pwa M), .list ([some M].map rtD)]), j3, some (.tuple [sy (pab (M - 1)), .list ([some (M + 1)].map rtD)]), some (sy (fbs (M - 1))), some (bnl (M - 1)), j7, none] = .ok (.int M) := by
    simp only [ap_var, ap_c, ap_m1, ap_m2, ap_m3, ap_part, ap_nopart, ap_if, ap_isN, ap_notN, ap_list, ap_tup, ap_nil, ap_cons, ap_cb, ap_m1m, ap_chain, ap_isi, ap_mB, ap_asB, ap_and, ap_or, ap_not, ap_yes, ap_call, ap_lc, ap_noX, ap_iseq, ap_iown, ap_seq, th_nx, th_rt, th_exc, ap_skip, ap_set, ap_asg, ap_aug, ap_lm, ap_put, ap_oif, ap_ret, ap_drop, ap_raise, ap_gN, ap_gT, ap_gsN, ap_gsC, ap_app, Res.bind_ok, Res.bind_exc, Res.of_some, exOut_ok, exOut_exc, wipeE, Option.bind_some, List.length_cons, List.length_nil, List.getElem?_cons_zero, List.getElem?_cons_succ, List.set_cons_zero, List.set_cons_succ, List.map_cons, List.map_nil, add_ii, sub_ii, cmpI, negD, modD, ap_lenL, ap_lenT, intD, int1, int2, walkD, if_true, if_false, decide_eq_true_eq, Bool.false_eq_true, reduceIte, Nat.reduceAdd, Nat.reduceSub, List.replicate_succ, List.replicate_zero, List.cons_append, List.nil_append, List.length_map, hlen]
  have ht0 : (mTup (aCons (mVar 5) (aCons (mList aNil) aNil))) [some (li xs), some (.int M), some (.tuple [sy (pwa M), .list ([some M].map rtD)]), j3, some (.tuple [sy (pab (M - 1)), .list ([some (M + 1)].map rtD)]), some (sy (fbs (M - 1))), some (bnl (M - 1)), j7, none] = .ok (.tuple [sy (fbs (M - 1)), .list []]) := by
    simp only [ap_var, ap_c, ap_m1, ap_m2, ap_m3, ap_part, ap_nopart, ap_if, ap_isN, ap_notN, ap_list, ap_tup, ap_nil, ap_cons, ap_cb, ap_m1m, ap_chain, ap_isi, ap_mB, ap_asB, ap_and, ap_or, ap_not, ap_yes, ap_call, ap_lc, ap_noX, ap_iseq, ap_iown, ap_seq, th_nx, th_rt, th_exc, ap_skip, ap_set, ap_asg, ap_aug, ap_lm, ap_put, ap_oif, ap_ret, ap_drop, ap_raise, ap_gN, ap_gT, ap_gsN, ap_gsC, ap_app, Res.bind_ok, Res.bind_exc, Res.of_some, exOut_ok, exOut_exc, wipeE, Option.bind_some, List.length_cons, List.length_nil, List.getElem?_cons_zero, List.getElem?_cons_succ, List.set_cons_zero, List.set_cons_succ, List.map_cons, List.map_nil, add_ii, sub_ii, cmpI, negD, modD, ap_lenL, ap_lenT, intD, int1, int2, walkD, if_true, if_false, decide_eq_true_eq, Bool.false_eq_true, reduceIte, Nat.reduceAdd, Nat.reduceSub, List.replicate_succ, List.replicate_zero, List.cons_append, List.nil_append, z0, z2]
  have k1 := call_ok (mf := m_count_in) (cons_ok ht0 (cons_ok hl0 (cons_ok (m := mC (.str ("b" : String))) ap_c ap_nil))) c1
  have k2 := call_ok (mf := m_count_in) (cons_ok ht0 (cons_ok hl0 (cons_ok (m := mC (.str ("bb" : String))) ap_c ap_nil))) c2
  have k3 : (m2 ixD (mVar 6) (m1 negD (mC (.int 1)))) [some (li xs), some (.int M), some (.tuple [sy (pwa M), .list ([some M].map rtD)]), j3, some (.tuple [sy (pab (M - 1)), .list ([some (M + 1)].map rtD)]), some (sy (fbs (M - 1))), some (bnl (M - 1)), j7, none] = .ok (.int (bN M)) := by
    simp only [ap_var, ap_c, ap_m1, ap_m2, ap_m3, ap_part, ap_nopart, ap_if, ap_isN, ap_notN, ap_list, ap_tup, ap_nil, ap_cons, ap_cb, ap_m1m, ap_chain, ap_isi, ap_mB, ap_asB, ap_and, ap_or, ap_not, ap_yes, ap_call, ap_lc, ap_noX, ap_iseq, ap_iown, ap_seq, th_nx, th_rt, th_exc, ap_skip, ap_set, ap_asg, ap_aug, ap_lm, ap_put, ap_oif, ap_ret, ap_drop, ap_raise, ap_gN, ap_gT, ap_gsN, ap_gsC, ap_app, Res.bind_ok, Res.bind_exc, Res.of_some, exOut_ok, exOut_exc, wipeE, Option.bind_some, List.length_cons, List.length_nil, List.getElem?_cons_zero, List.getElem?_cons_succ, List.set_cons_zero, List.set_cons_succ, List.map_cons, List.map_nil, add_ii, sub_ii, cmpI, negD, modD, ap_lenL, ap_lenT, intD, int1, int2, walkD, if_true, if_false, decide_eq_true_eq, Bool.false_eq_true, reduceIte, Nat.reduceAdd, Nat.reduceSub, List.replicate_succ, List.replicate_zero, List.cons_append, List.nil_append, hlast]
  have k4 := m2_ok (f := eqD) k1 k3 (eqi (b := true) (decide_eq_true rfl))
  have k5 := m2_ok (f := eqD) (mb := mC (.int 0)) k2 ap_c (eqi (b := true) (decide_eq_true rfl))
  exact ret_ok (and_v k4 k5)
end K67

namespace K67
open PySem PySem.Spec L2 DL
theorem count_out {s : List Sy} {R w : D} {k : Int} (h : ¬ (0 ≤ k ∧ k < s.length)) : m_count_in [.tuple [sy s, R], .int k, w] = .exc "OutOfRange" (.int k) := by
  refine run_exc (e := [some (.tuple [sy s, R]), some (.int k), some w]) ?_
  show o_count_in [some (.tuple [sy s, R]), some (.int k), some w] = _
  unfold o_count_in
  rw [ap_seq]
  simp only [ap_var, ap_c, ap_m1, ap_m2, ap_m3, ap_part, ap_nopart, ap_if, ap_isN, ap_notN, ap_list, ap_tup, ap_nil, ap_cons, ap_cb, ap_m1m, ap_chain, ap_isi, ap_mB, ap_asB, ap_and, ap_or, ap_not, ap_yes, ap_call, ap_lc, ap_noX, ap_iseq, ap_iown, ap_seq, th_nx, th_rt, th_exc, ap_skip, ap_set, ap_asg, ap_aug, ap_lm, ap_put, ap_oif, ap_ret, ap_drop, ap_raise, ap_gN, ap_gT, ap_gsN, ap_gsC, ap_app, Res.bind_ok, Res.bind_exc, Res.of_some, exOut_ok, exOut_exc, wipeE, Option.bind_some, List.length_cons, List.length_nil, List.getElem?_cons_zero, List.getElem?_cons_succ, List.set_cons_zero, List.set_cons_succ, List.map_cons, List.map_nil, add_ii, sub_ii, cmpI, negD, modD, ap_lenL, ap_lenT, intD, int1, int2, walkD, if_true, if_false, decide_eq_true_eq, Bool.false_eq_true, reduceIte, Nat.reduceAdd, Nat.reduceSub, List.replicate_succ, List.replicate_zero, List.cons_append, List.nil_append, check_out h]
theorem ne_str (x : Str) : neD (.str x) (.str x) = some (.bool false) := nes (b := true) (decide_eq_true rfl)
theorem or_ff {nb nc : Env' → Res Bool} {env : Env'} (h : nb env = .ok false) (h2 : nc env = .ok false) : bOr nb nc env = .ok false := or_f h h2
theorem and_f {nb nc : Env' → Res Bool} {env : Env'} (h : nb env = .ok false) : bAnd nb nc env = .ok false := by
  rw [ap_and, h]; rfl
theorem and_t {nb nc : Env' → Res Bool} {env : Env'} {b : Bool} (h : nb env = .ok true) (h2 : nc env = .ok b) : bAnd nb nc env = .ok b := by
  rw [ap_and, h, Res.bind_ok, if_pos rfl, h2]
theorem notN_ok {m : Env' → Res D} {env : Env'} {d : D} (h : m env = .ok d) : mNotN m env = .ok (.bool (!isND d)) := by
  rw [ap_notN, h]; rfl
theorem mul6 (a : Nat) : mulG (.int 6) (.int (a : Int)) = some (.int ((6 * a : Nat) : Int)) := by
  rw [mul_ok (.inl ⟨by decide, by decide⟩)]
  congr 2
theorem math (ns : List Int) (hl : ns.length ≤ 63) : runD .pl n_law.length o_law [.list (ns.map .int)] = .ok (.bool true) := by
  obtain ⟨xs, h1, h2, _⟩ := numbers_ok 400 (by omega) ns hl
  suffices H : ∃ x, o_law [some (li ns), none, none, none, none, none, none, none, none, none, none, none] = x ∧ x = .rt (.bool true) by
    obtain ⟨x, h1, rfl⟩ := H
    exact run_rt h1
  have z2 : 2 ≤ sizeLine := sz_ge (by omega)
  have z3 : 3 ≤ sizeLine := sz_ge (by omega)
  have p2 : (0 : Int) < 2 := by decide
  rw [show ((400 : Nat) : Int) = 400 from rfl] at h1
  refine seq_ex (e := [some (li ns), some (li xs), none, none, none, none, none, none, none, none, none, none]) ?_ ?_
  · refine (set_ok (call_ok (l := [li ns, .int 400]) ?_ h1)).trans rfl
    simp only [ap_var, ap_c, ap_m1, ap_m2, ap_m3, ap_part, ap_nopart, ap_if, ap_isN, ap_notN, ap_list, ap_tup, ap_nil, ap_cons, ap_cb, ap_m1m, ap_chain, ap_isi, ap_mB, ap_asB, ap_and, ap_or, ap_not, ap_yes, ap_call, ap_lc, ap_noX, ap_iseq, ap_iown, ap_seq, th_nx, th_rt, th_exc, ap_skip, ap_set, ap_asg, ap_aug, ap_lm, ap_put, ap_oif, ap_ret, ap_drop, ap_raise, ap_gN, ap_gT, ap_gsN, ap_gsC, ap_app, Res.bind_ok, Res.bind_exc, Res.of_some, exOut_ok, exOut_exc, wipeE, Option.bind_some, List.length_cons, List.length_nil, List.getElem?_cons_zero, List.getElem?_cons_succ, List.set_cons_zero, List.set_cons_succ, List.map_cons, List.map_nil, add_ii, sub_ii, cmpI, negD, modD, ap_lenL, ap_lenT, intD, int1, int2, walkD, if_true, if_false, decide_eq_true_eq, Bool.false_eq_true, reduceIte, Nat.reduceAdd, Nat.reduceSub, List.replicate_succ, List.replicate_zero, List.cons_append, List.nil_append]
  obtain ⟨v0, hv0⟩ : ∃ v, xs[0]? = some v := ⟨_, List.getElem?_eq_getElem (by omega)⟩
  have x0 := ix_li (i := 0) (n := 0) rfl hv0
  obtain ⟨q, hq, pq⟩ := pick2 (a := 12) (b := 57) (v := v0)
  rw [show ((12 : Nat) : Int) = 12 from rfl, show ((57 : Nat) : Int) = 57 from rfl] at pq
  obtain ⟨s, hs, wf, s0, sz⟩ := symbols_ok (xs := xs) (by omega) (at' := 10) (most := (q : Int)) (by omega)
  have hz : s.length ≤ 61 := by omega
  refine seq_ex (e := [some (li ns), some (li xs), some (sy s), none, none, none, none, none, none, none, none, none]) ?_ ?_
  · refine (set_ok (call_ok (l := [li xs, .int 10, .int q]) ?_ hs)).trans rfl
    simp only [ap_var, ap_c, ap_m1, ap_m2, ap_m3, ap_part, ap_nopart, ap_if, ap_isN, ap_notN, ap_list, ap_tup, ap_nil, ap_cons, ap_cb, ap_m1m, ap_chain, ap_isi, ap_mB, ap_asB, ap_and, ap_or, ap_not, ap_yes, ap_call, ap_lc, ap_noX, ap_iseq, ap_iown, ap_seq, th_nx, th_rt, th_exc, ap_skip, ap_set, ap_asg, ap_aug, ap_lm, ap_put, ap_oif, ap_ret, ap_drop, ap_raise, ap_gN, ap_gT, ap_gsN, ap_gsC, ap_app, Res.bind_ok, Res.bind_exc, Res.of_some, exOut_ok, exOut_exc, wipeE, Option.bind_some, List.length_cons, List.length_nil, List.getElem?_cons_zero, List.getElem?_cons_succ, List.set_cons_zero, List.set_cons_succ, List.map_cons, List.map_nil, add_ii, sub_ii, cmpI, negD, modD, ap_lenL, ap_lenT, intD, int1, int2, walkD, if_true, if_false, decide_eq_true_eq, Bool.false_eq_true, reduceIte, Nat.reduceAdd, Nat.reduceSub, List.replicate_succ, List.replicate_zero, List.cons_append, List.nil_append, x0, p2, z2, pq]
  obtain ⟨rs, hr, rl, rin⟩ := roots_ok (xs := xs) (by omega) (at' := 80) s0 (by omega)
  obtain ⟨R, hR⟩ : ∃ R : D, R = .tuple [sy s, .list (rs.map rtD)] := ⟨_, rfl⟩
  refine seq_ex (e := [some (li ns), some (li xs), some (sy s), some R, none, none, none, none, none, none, none, none]) ?_ ?_
  · refine (set_ok ?_).trans rfl
    have e1 := call_ok (mf := m__law_roots) (cons_ok (m := mVar 1) (env := [some (li ns), some (li xs), some (sy s), none, none, none, none, none, none, none, none, none]) (var_ok rfl) (cons_ok (m := mC (.int 80)) ap_c (cons_ok (m := mVar 2) (var_ok rfl) ap_nil))) hr
    rw [hR]
    exact tup_ok (cons_ok (var_ok rfl) (cons_ok e1 ap_nil)) (by show 2 ≤ 16777216; omega)
  obtain ⟨kept, hk⟩ := repr_rules wf (by omega) rl rin
  rw [← hR] at hk
  refine seq_ex (e := [some (li ns), some (li xs), some (sy s), some R, some (.str kept), none, none, none, none, none, none, none]) ?_ ?_
  · simp only [ap_var, ap_c, ap_m1, ap_m2, ap_m3, ap_part, ap_nopart, ap_if, ap_isN, ap_notN, ap_list, ap_tup, ap_nil, ap_cons, ap_cb, ap_m1m, ap_chain, ap_isi, ap_mB, ap_asB, ap_and, ap_or, ap_not, ap_yes, ap_call, ap_lc, ap_noX, ap_iseq, ap_iown, ap_seq, th_nx, th_rt, th_exc, ap_skip, ap_set, ap_asg, ap_aug, ap_lm, ap_put, ap_oif, ap_ret, ap_drop, ap_raise, ap_gN, ap_gT, ap_gsN, ap_gsC, ap_app, Res.bind_ok, Res.bind_exc, Res.of_some, exOut_ok, exOut_exc, wipeE, Option.bind_some, List.length_cons, List.length_nil, List.getElem?_cons_zero, List.getElem?_cons_succ, List.set_cons_zero, List.set_cons_succ, List.map_cons, List.map_nil, add_ii, sub_ii, cmpI, negD, modD, ap_lenL, ap_lenT, intD, int1, int2, walkD, if_true, if_false, decide_eq_true_eq, Bool.false_eq_true, reduceIte, Nat.reduceAdd, Nat.reduceSub, List.replicate_succ, List.replicate_zero, List.cons_append, List.nil_append, hk]
  have ht := ltexts_ok wf (by omega) (B := 3000) (by omega)
  refine seq_ex (e := [some (li ns), some (li xs), some (sy s), some R, some (.str kept), some (tl 3000 s), none, none, none, none, none, none]) ?_ ?_
  · refine (set_ok (call_ok (l := [sy s, .int 3000]) ?_ ht)).trans rfl
    simp only [ap_var, ap_c, ap_m1, ap_m2, ap_m3, ap_part, ap_nopart, ap_if, ap_isN, ap_notN, ap_list, ap_tup, ap_nil, ap_cons, ap_cb, ap_m1m, ap_chain, ap_isi, ap_mB, ap_asB, ap_and, ap_or, ap_not, ap_yes, ap_call, ap_lc, ap_noX, ap_iseq, ap_iown, ap_seq, th_nx, th_rt, th_exc, ap_skip, ap_set, ap_asg, ap_aug, ap_lm, ap_put, ap_oif, ap_ret, ap_drop, ap_raise, ap_gN, ap_gT, ap_gsN, ap_gsC, ap_app, Res.bind_ok, Res.bind_exc, Res.of_some, exOut_ok, exOut_exc, wipeE, Option.bind_some, List.length_cons, List.length_nil, List.getElem?_cons_zero, List.getElem?_cons_succ, List.set_cons_zero, List.set_cons_succ, List.map_cons, List.map_nil, add_ii, sub_ii, cmpI, negD, modD, ap_lenL, ap_lenT, intD, int1, int2, walkD, if_true, if_false, decide_eq_true_eq, Bool.false_eq_true, reduceIte, Nat.reduceAdd, Nat.reduceSub, List.replicate_succ, List.replicate_zero, List.cons_append, List.nil_append]
  refine seq_for (fun m e => ∃ j6 j7 j8 j9, e = [some (li ns), some (li xs), some (sy s), some R, some (.str kept), some (tl 3000 s), j6, j7, j8, j9, none, none]) (rng 0 6) ?_ ⟨_, _, _, _, rfl⟩ ?_ ?_
  · refine irange_ok (l := [.int (6 : Nat)]) ?_ (range1 (by omega))
    simp only [ap_var, ap_c, ap_m1, ap_m2, ap_m3, ap_part, ap_nopart, ap_if, ap_isN, ap_notN, ap_list, ap_tup, ap_nil, ap_cons, ap_cb, ap_m1m, ap_chain, ap_isi, ap_mB, ap_asB, ap_and, ap_or, ap_not, ap_yes, ap_call, ap_lc, ap_noX, ap_iseq, ap_iown, ap_seq, th_nx, th_rt, th_exc, ap_skip, ap_set, ap_asg, ap_aug, ap_lm, ap_put, ap_oif, ap_ret, ap_drop, ap_raise, ap_gN, ap_gT, ap_gsN, ap_gsC, ap_app, Res.bind_ok, Res.bind_exc, Res.of_some, exOut_ok, exOut_exc, wipeE, Option.bind_some, List.length_cons, List.length_nil, List.getElem?_cons_zero, List.getElem?_cons_succ, List.set_cons_zero, List.set_cons_succ, List.map_cons, List.map_nil, add_ii, sub_ii, cmpI, negD, modD, ap_lenL, ap_lenT, intD, int1, int2, walkD, if_true, if_false, decide_eq_true_eq, Bool.false_eq_true, reduceIte, Nat.reduceAdd, Nat.reduceSub, List.replicate_succ, List.replicate_zero, List.cons_append, List.nil_append]
    rfl
  · rintro m e0 e hd ⟨j6, j7, j8, j9, rfl⟩
    rw [rng_get] at hd
    split at hd <;> cases hd
    rename_i hm
    rw [Int.zero_add]
    obtain ⟨w, hw, w0, w12⟩ := word_ok (xs := xs) (by omega) (at' := 100 + ((6 * m : Nat) : Int)) wf s0 (by omega)
    have hct := counts_ok wf (by omega) w0 w12
    suffices HH : ∃ o, (oSeq (oFor (iRange (aCons (mCB lenD (aCons (mVar 2) aNil)) aNil)) (gN 7) (oSeq (oIf (bAnd (mB (mNotN (m2 ixD (mVar 5) (mVar 7)))) (mB (m2 neD (m2 ixD (mVar 9) (mVar 7)) (mCall m__law_scan (aCons (m2 ixD (mVar 5) (mVar 7)) (aCons (mVar 8) aNil)))))) (oRet (mC (.bool false))) oSkip) oSkip)) (oSeq (oFor (iSeq (mList (aCons (m2 subD (mCB lenD (aCons (mVar 2) aNil)) (mC (.int 1))) (aCons (m2 modD (mCB intD (aCons (m2 ixD (mVar 1) (m2 addD (mC (.int 150)) (mVar 6))) aNil)) (mCB lenD (aCons (mVar 2) aNil))) (aCons (m2 modD (mCB intD (aCons (m2 ixD (mVar 1) (m2 addD (mC (.int 160)) (mVar 6))) aNil)) (mCB lenD (aCons (mVar 2) aNil))) aNil))))) (gN 7) (oSeq (oIf (mB (m2 neD (mCB reprD (aCons (mCall m_count_in (aCons (mVar 3) (aCons (mVar 7) (aCons (mVar 8) aNil)))) aNil)) (mCB reprD (aCons (m2 ixD (mVar 9) (mVar 7)) aNil)))) (oRet (mC (.bool false))) oSkip) oSkip)) (oSeq (oIf (bOr (mB (m2 neD (mCB reprD (aCons (mCall m_count_of (aCons (mVar 3) (aCons (mVar 8) aNil))) aNil)) (mCB reprD (aCons (mCB sumD (aCons (mLc (iSeq (m2 ixD (mVar 3) (mC (.int 1)))) (gN 11) (mB (mNotN (mVar 11))) (m2 ixD (mVar 9) (mVar 11)) [11]) aNil)) aNil)))) (mB (m2 neD (mCB reprD (aCons (mVar 3) aNil)) (mVar 4)))) (oRet (mC (.bool false))) oSkip) oSkip))) [some (li ns), some (li xs), some (sy s), some R, some (.str kept), some (tl 3000 s), some (.int (m : Int)), j7, some (.str (txS w)), some (cnl w s), none, none] = o ∧ ∃ j7, o = .nx [some (li ns), some (li xs), some (sy s), some R, some (.str kept), some (tl 3000 s), some (.int (m : Int)), j7, some (.str (txS w)), some (cnl w s), none, none] by
      obtain ⟨o, q1, j7', rfl⟩ := HH
      refine ⟨_, _, rfl, seq_nx (e := [some (li ns), some (li xs), some (sy s), some R, some (.str kept), some (tl 3000 s), some (.int (m : Int)), j7, some (.str (txS w)), j9, none, none]) ?_ (seq_nx (e := [some (li ns), some (li xs), some (sy s), some R, some (.str kept), some (tl 3000 s), some (.int (m : Int)), j7, some (.str (txS w)), some (cnl w s), none, none]) ?_ q1), _, _, _, _, rfl⟩
      · refine (set_ok (call_ok (l := [li xs, .int (100 + ((6 * m : Nat) : Int)), tl 3000 s]) ?_ hw)).trans rfl
        simp only [ap_var, ap_c, ap_m1, ap_m2, ap_m3, ap_part, ap_nopart, ap_if, ap_isN, ap_notN, ap_list, ap_tup, ap_nil, ap_cons, ap_cb, ap_m1m, ap_chain, ap_isi, ap_mB, ap_asB, ap_and, ap_or, ap_not, ap_yes, ap_call, ap_lc, ap_noX, ap_iseq, ap_iown, ap_seq, th_nx, th_rt, th_exc, ap_skip, ap_set, ap_asg, ap_aug, ap_lm, ap_put, ap_oif, ap_ret, ap_drop, ap_raise, ap_gN, ap_gT, ap_gsN, ap_gsC, ap_app, Res.bind_ok, Res.bind_exc, Res.of_some, exOut_ok, exOut_exc, wipeE, Option.bind_some, List.length_cons, List.length_nil, List.getElem?_cons_zero, List.getElem?_cons_succ, List.set_cons_zero, List.set_cons_succ, List.map_cons, List.map_nil, add_ii, sub_ii, cmpI, negD, modD, ap_lenL, ap_lenT, intD, int1, int2, walkD, if_true, if_false, decide_eq_true_eq, Bool.false_eq_true, reduceIte, Nat.reduceAdd, Nat.reduceSub, List.replicate_succ, List.replicate_zero, List.cons_append, List.nil_append, mul6]
      · refine (set_ok (call_ok (l := [sy s, .str (txS w)]) ?_ hct)).trans rfl
        simp only [ap_var, ap_c, ap_m1, ap_m2, ap_m3, ap_part, ap_nopart, ap_if, ap_isN, ap_notN, ap_list, ap_tup, ap_nil, ap_cons, ap_cb, ap_m1m, ap_chain, ap_isi, ap_mB, ap_asB, ap_and, ap_or, ap_not, ap_yes, ap_call, ap_lc, ap_noX, ap_iseq, ap_iown, ap_seq, th_nx, th_rt, th_exc, ap_skip, ap_set, ap_asg, ap_aug, ap_lm, ap_put, ap_oif, ap_ret, ap_drop, ap_raise, ap_gN, ap_gT, ap_gsN, ap_gsC, ap_app, Res.bind_ok, Res.bind_exc, Res.of_some, exOut_ok, exOut_exc, wipeE, Option.bind_some, List.length_cons, List.length_nil, List.getElem?_cons_zero, List.getElem?_cons_succ, List.set_cons_zero, List.set_cons_succ, List.map_cons, List.map_nil, add_ii, sub_ii, cmpI, negD, modD, ap_lenL, ap_lenT, intD, int1, int2, walkD, if_true, if_false, decide_eq_true_eq, Bool.false_eq_true, reduceIte, Nat.reduceAdd, Nat.reduceSub, List.replicate_succ, List.replicate_zero, List.cons_append, List.nil_append]
    -- the texts
    refine seq_for (fun _ e => ∃ j7, e = [some (li ns), some (li xs), some (sy s), some R, some (.str kept), some (tl 3000 s), some (.int (m : Int)), j7, some (.str (txS w)), some (cnl w s), none, none]) (rng 0 s.length) ?_ ⟨_, rfl⟩ ?_ ?_
    · refine irange_ok (l := [.int s.length]) ?_ (range1 (by omega))
      simp only [ap_var, ap_c, ap_m1, ap_m2, ap_m3, ap_part, ap_nopart, ap_if, ap_isN, ap_notN, ap_list, ap_tup, ap_nil, ap_cons, ap_cb, ap_m1m, ap_chain, ap_isi, ap_mB, ap_asB, ap_and, ap_or, ap_not, ap_yes, ap_call, ap_lc, ap_noX, ap_iseq, ap_iown, ap_seq, th_nx, th_rt, th_exc, ap_skip, ap_set, ap_asg, ap_aug, ap_lm, ap_put, ap_oif, ap_ret, ap_drop, ap_raise, ap_gN, ap_gT, ap_gsN, ap_gsC, ap_app, Res.bind_ok, Res.bind_exc, Res.of_some, exOut_ok, exOut_exc, wipeE, Option.bind_some, List.length_cons, List.length_nil, List.getElem?_cons_zero, List.getElem?_cons_succ, List.set_cons_zero, List.set_cons_succ, List.map_cons, List.map_nil, add_ii, sub_ii, cmpI, negD, modD, ap_lenL, ap_lenT, intD, int1, int2, walkD, if_true, if_false, decide_eq_true_eq, Bool.false_eq_true, reduceIte, Nat.reduceAdd, Nat.reduceSub, List.replicate_succ, List.replicate_zero, List.cons_append, List.nil_append, List.length_map]
    · rintro k e0 e hd ⟨j7, rfl⟩
      rw [rng_get] at hd
      split at hd <;> cases hd
      rename_i hk'
      rw [Int.zero_add]
      refine ⟨_, [some (li ns), some (li xs), some (sy s), some R, some (.str kept), some (tl 3000 s), some (.int (m : Int)), some (.int (k : Int)), some (.str (txS w)), some (cnl w s), none, none], rfl, ?_, _, rfl⟩
      have e1 := m2_ok (f := ixD) (ma := mVar 5) (mb := mVar 7) (env := [some (li ns), some (li xs), some (sy s), some R, some (.str kept), some (tl 3000 s), some (.int (m : Int)), some (.int (k : Int)), some (.str (txS w)), some (cnl w s), none, none]) (var_ok rfl) (var_ok rfl) (tl_get hk')
      have e2 := m2_ok (f := ixD) (ma := mVar 9) (mb := mVar 7) (env := [some (li ns), some (li xs), some (sy s), some R, some (.str kept), some (tl 3000 s), some (.int (m : Int)), some (.int (k : Int)), some (.str (txS w)), some (cnl w s), none, none]) (var_ok rfl) (var_ok rfl) (cn_get hk')
      by_cases hb : (tx s k).length ≤ 3000
      · have et : tD 3000 (tx s k) = .str (txS (tx s k)) := if_pos hb
        rw [et] at e1
        have e3 := call_ok (mf := m__law_scan) (cons_ok e1 (cons_ok (m := mVar 8) (var_ok rfl) ap_nil)) (scan_ok (t := tx s k) (w := w) (by omega) (by omega))
        have e4 := b_ok (m2_ok (f := neD) e2 e3 (neq_nat _))
        have e5 : mB (mNotN (m2 ixD (mVar 5) (mVar 7))) _ = .ok true := b_ok (notN_ok e1)
        exact seq_nx (oif_f (and_t e5 e4)) rfl
      · have et : tD 3000 (tx s k) = .none := if_neg hb
        rw [et] at e1
        have e5 : mB (mNotN (m2 ixD (mVar 5) (mVar 7))) _ = .ok false := b_ok (notN_ok e1)
        exact seq_nx (oif_f (and_f e5)) rfl
    rintro e ⟨j7, rfl⟩
    -- three symbols
    obtain ⟨va, hva⟩ : ∃ v, xs[150 + m]? = some v := ⟨_, List.getElem?_eq_getElem (by omega)⟩
    obtain ⟨vb, hvb⟩ : ∃ v, xs[160 + m]? = some v := ⟨_, List.getElem?_eq_getElem (by omega)⟩
    have xa := ix_li (i := 150 + (m : Int)) (n := 150 + m) (by omega) hva
    have xb := ix_li (i := 160 + (m : Int)) (n := 160 + m) (by omega) hvb
    obtain ⟨ka, ha, ha2⟩ := mod_nat va s0
    obtain ⟨kb, hb, hb2⟩ := mod_nat vb s0
    have hsl : (0 : Int) < (s.length : Int) := by omega
    refine seq_for (fun _ e => ∃ j7, e = [some (li ns), some (li xs), some (sy s), some R, some (.str kept), some (tl 3000 s), some (.int (m : Int)), j7, some (.str (txS w)), some (cnl w s), none, none]) [.int ((s.length : Int) - 1), .int ka, .int kb] ?_ ⟨_, rfl⟩ ?_ ?_
    · simp only [ap_var, ap_c, ap_m1, ap_m2, ap_m3, ap_part, ap_nopart, ap_if, ap_isN, ap_notN, ap_list, ap_tup, ap_nil, ap_cons, ap_cb, ap_m1m, ap_chain, ap_isi, ap_mB, ap_asB, ap_and, ap_or, ap_not, ap_yes, ap_call, ap_lc, ap_noX, ap_iseq, ap_iown, ap_seq, th_nx, th_rt, th_exc, ap_skip, ap_set, ap_asg, ap_aug, ap_lm, ap_put, ap_oif, ap_ret, ap_drop, ap_raise, ap_gN, ap_gT, ap_gsN, ap_gsC, ap_app, Res.bind_ok, Res.bind_exc, Res.of_some, exOut_ok, exOut_exc, wipeE, Option.bind_some, List.length_cons, List.length_nil, List.getElem?_cons_zero, List.getElem?_cons_succ, List.set_cons_zero, List.set_cons_succ, List.map_cons, List.map_nil, add_ii, sub_ii, cmpI, negD, modD, ap_lenL, ap_lenT, intD, int1, int2, walkD, if_true, if_false, decide_eq_true_eq, Bool.false_eq_true, reduceIte, Nat.reduceAdd, Nat.reduceSub, List.replicate_succ, List.replicate_zero, List.cons_append, List.nil_append, List.length_map, xa, xb, hsl, ha, hb, z3]
    · rintro i d e0 hd ⟨j7, rfl⟩
      have hd2 : ∃ k : Nat, k < s.length ∧ d = .int k := by
        have := List.mem_of_getElem? hd
        simp only [List.mem_cons, List.not_mem_nil, or_false] at this
        rcases this with rfl | rfl | rfl
        · exact ⟨s.length - 1, by omega, by congr 1; omega⟩
        · exact ⟨ka, ha2, rfl⟩
        · exact ⟨kb, hb2, rfl⟩
      obtain ⟨k, hk', rfl⟩ := hd2
      refine ⟨_, [some (li ns), some (li xs), some (sy s), some R, some (.str kept), some (tl 3000 s), some (.int (m : Int)), some (.int (k : Int)), some (.str (txS w)), some (cnl w s), none, none], rfl, ?_, _, rfl⟩
      have hc := count_ok wf (by omega) (R := .list (rs.map rtD)) (w := w) (by omega) hk'
      rw [← KM.occ_ct w0, ← hR] at hc
      obtain ⟨x, hx⟩ := repr_nat (n := KM.occ w (tx s k)) (by have := occ_bound wf hz hk' w; omega)
      have e1 := m2_ok (f := ixD) (ma := mVar 9) (mb := mVar 7) (env := [some (li ns), some (li xs), some (sy s), some R, some (.str kept), some (tl 3000 s), some (.int (m : Int)), some (.int (k : Int)), some (.str (txS w)), some (cnl w s), none, none]) (var_ok rfl) (var_ok rfl) (cn_get hk')
      have e2 := call_ok (mf := m_count_in) (cons_ok (m := mVar 3) (env := [some (li ns), some (li xs), some (sy s), some R, some (.str kept), some (tl 3000 s), some (.int (m : Int)), some (.int (k : Int)), some (.str (txS w)), some (cnl w s), none, none]) (var_ok rfl) (cons_ok (m := mVar 7) (var_ok rfl) (cons_ok (m := mVar 8) (var_ok rfl) ap_nil))) hc
      have e3 := cb_ok (g := reprD) (cons_ok e2 ap_nil) hx
      have e4 := cb_ok (g := reprD) (cons_ok e1 ap_nil) hx
      have e5 := b_ok (m2_ok (f := neD) e3 e4 (ne_str x))
      exact seq_nx (oif_f e5) rfl
    rintro e ⟨j7, rfl⟩
    refine ⟨.nx [some (li ns), some (li xs), some (sy s), some R, some (.str kept), some (tl 3000 s), some (.int (m : Int)), j7, some (.str (txS w)), some (cnl w s), none, none], ?_, j7, rfl⟩
    have hco := count_of_ok wf (by omega) (rs := rs) (by omega) rin (w := w) (by omega)
    rw [← hR] at hco
    have hocc : (fun k => KM.ct w 0 (tx s k)) = fun k => KM.occ w (tx s k) := funext fun k => (KM.occ_ct w0 _).symm
    rw [hocc] at hco
    have hbd : ((rs.filterMap id).map fun k => KM.occ w (tx s k)).sum ≤ 9 * (2 ^ 60 + 1) := by
      refine Nat.le_trans (sum_bound (fun k => KM.occ w (tx s k)) (2 ^ 60 + 1) _ fun k hk => ?_) (Nat.mul_le_mul_right _ (Nat.le_trans (List.length_filterMap_le _ _) rl))
      obtain ⟨o, ho, ho2⟩ := List.mem_filterMap.mp hk
      have ho3 : o = some k := ho2
      subst ho3
      exact occ_bound wf hz (rin k ho) w
    obtain ⟨x, hx⟩ := repr_nat (n := ((rs.filterMap id).map fun k => KM.occ w (tx s k)).sum) (by omega)
    have hsum := sum_map (fun k => KM.occ w (tx s k)) (rs.filterMap id)
    have e1 := lc_roots (mi := m2 ixD (mVar 3) (mC (.int 1))) (m := m2 ixD (mVar 9) (mVar 11)) (v := 11) (env := [some (li ns), some (li xs), some (sy s), some R, some (.str kept), some (tl 3000 s), some (.int (m : Int)), j7, some (.str (txS w)), some (cnl w s), none, none]) (rs := rs) (fun k => .int (KM.occ w (tx s k))) (m2_ok (f := ixD) (var_ok rfl) ap_c (by rw [hR]; exact ix_tup (n := 1) rfl)) (by omega) (by show 11 < 12; omega) (fun k hk => m2_ok (f := ixD) (var_ok rfl) (var_ok rfl) (cn_get (rin k hk)))
    have e2 := cb_ok (g := sumD) (cons_ok e1 ap_nil) hsum
    have e3 := cb_ok (g := reprD) (cons_ok e2 ap_nil) hx
    have e4 := call_ok (mf := m_count_of) (cons_ok (m := mVar 3) (env := [some (li ns), some (li xs), some (sy s), some R, some (.str kept), some (tl 3000 s), some (.int (m : Int)), j7, some (.str (txS w)), some (cnl w s), none, none]) (var_ok rfl) (cons_ok (m := mVar 8) (var_ok rfl) ap_nil)) hco
    have e5 := cb_ok (g := reprD) (cons_ok e4 ap_nil) hx
    have e6 := b_ok (m2_ok (f := neD) e5 e3 (ne_str x))
    have e7 := cb_ok (g := reprD) (cons_ok (m := mVar 3) (env := [some (li ns), some (li xs), some (sy s), some R, some (.str kept), some (tl 3000 s), some (.int (m : Int)), j7, some (.str (txS w)), some (cnl w s), none, none]) (var_ok rfl) ap_nil) hk
    have e8 := b_ok (m2_ok (f := neD) (mb := mVar 4) e7 (var_ok rfl) (ne_str kept))
    exact seq_nx (oif_f (or_f e6 e8)) rfl
  rintro e ⟨j6, j7, j8, j9, rfl⟩
  refine seq_for (fun _ e => ∃ j7, e = [some (li ns), some (li xs), some (sy s), some R, some (.str kept), some (tl 3000 s), j6, j7, j8, j9, none, none]) [.int (-1), .int s.length, .int 900] ?_ ⟨_, rfl⟩ ?_ ?_
  · simp only [ap_var, ap_c, ap_m1, ap_m2, ap_m3, ap_part, ap_nopart, ap_if, ap_isN, ap_notN, ap_list, ap_tup, ap_nil, ap_cons, ap_cb, ap_m1m, ap_chain, ap_isi, ap_mB, ap_asB, ap_and, ap_or, ap_not, ap_yes, ap_call, ap_lc, ap_noX, ap_iseq, ap_iown, ap_seq, th_nx, th_rt, th_exc, ap_skip, ap_set, ap_asg, ap_aug, ap_lm, ap_put, ap_oif, ap_ret, ap_drop, ap_raise, ap_gN, ap_gT, ap_gsN, ap_gsC, ap_app, Res.bind_ok, Res.bind_exc, Res.of_some, exOut_ok, exOut_exc, wipeE, Option.bind_some, List.length_cons, List.length_nil, List.getElem?_cons_zero, List.getElem?_cons_succ, List.set_cons_zero, List.set_cons_succ, List.map_cons, List.map_nil, add_ii, sub_ii, cmpI, negD, modD, ap_lenL, ap_lenT, intD, int1, int2, walkD, if_true, if_false, decide_eq_true_eq, Bool.false_eq_true, reduceIte, Nat.reduceAdd, Nat.reduceSub, List.replicate_succ, List.replicate_zero, List.cons_append, List.nil_append, List.length_map, z3]
  · rintro i d e0 hd ⟨j7, rfl⟩
    have hd2 : ∃ k : Int, ¬ (0 ≤ k ∧ k < s.length) ∧ d = .int k := by
      have := List.mem_of_getElem? hd
      simp only [List.mem_cons, List.not_mem_nil, or_false] at this
      rcases this with rfl | rfl | rfl
      · exact ⟨_, by omega, rfl⟩
      · exact ⟨_, by omega, rfl⟩
      · exact ⟨_, by omega, rfl⟩
    obtain ⟨k, hk', rfl⟩ := hd2
    refine ⟨_, [some (li ns), some (li xs), some (sy s), some R, some (.str kept), some (tl 3000 s), j6, some (.int k), j8, j9, none, none], rfl, ?_, _, rfl⟩
    have hc := count_out (R := .list (rs.map rtD)) (w := .str ("a" : String)) hk'
    rw [← hR] at hc
    have k2 : h_HouseError "OutOfRange" = some true := by decide +kernel
    have o4 : isub_OutOfRange "OutOfRange" = true := by decide +kernel
    have nk : neD (.int k) (.int k) = some (.bool false) := nei (b := true) (decide_eq_true rfl)
    refine seq_nx (e := [some (li ns), some (li xs), some (sy s), some R, some (.str kept), some (tl 3000 s), j6, some (.int k), j8, j9, none, none]) ?_ rfl
    unfold oTry
    simp only [ap_var, ap_c, ap_m1, ap_m2, ap_m3, ap_part, ap_nopart, ap_if, ap_isN, ap_notN, ap_list, ap_tup, ap_nil, ap_cons, ap_cb, ap_m1m, ap_chain, ap_isi, ap_mB, ap_asB, ap_and, ap_or, ap_not, ap_yes, ap_call, ap_lc, ap_noX, ap_iseq, ap_iown, ap_seq, th_nx, th_rt, th_exc, ap_skip, ap_set, ap_asg, ap_aug, ap_lm, ap_put, ap_oif, ap_ret, ap_drop, ap_raise, ap_gN, ap_gT, ap_gsN, ap_gsC, ap_app, Res.bind_ok, Res.bind_exc, Res.of_some, exOut_ok, exOut_exc, wipeE, Option.bind_some, List.length_cons, List.length_nil, List.getElem?_cons_zero, List.getElem?_cons_succ, List.set_cons_zero, List.set_cons_succ, List.map_cons, List.map_nil, add_ii, sub_ii, cmpI, negD, modD, ap_lenL, ap_lenT, intD, int1, int2, walkD, if_true, if_false, decide_eq_true_eq, Bool.false_eq_true, reduceIte, Nat.reduceAdd, Nat.reduceSub, List.replicate_succ, List.replicate_zero, List.cons_append, List.nil_append, hc, k2, suOut, Nat.reduceLT, o4, nk, Bool.not_true]
  rintro e ⟨j7, rfl⟩
  refine ⟨_, ?_, rfl⟩
  have hk := known_ok (xs := xs) (by omega)
  have e1 := call_ok (mf := m__law_known) (cons_ok (m := mVar 1) (env := [some (li ns), some (li xs), some (sy s), some R, some (.str kept), some (tl 3000 s), j6, j7, j8, j9, none, none]) (var_ok rfl) ap_nil) hk
  exact ret_ok e1
end K67

namespace K67
end K67
open PySem PySem.W PyProof.Rows
set_option maxHeartbeats 0 in
theorem PySem.Challenge.cw_suffixhouse_k67_places_counted_by_rules_holds : PySem.Challenge.rw_suffixhouse_k67_places_counted_by_rules.Holds := by
  w_on; o_law; k_head; (case hw => w_witness2)
  k_fill
  refine DL.walkG (l := PySem.Challenge.rw_suffixhouse_k67_places_counted_by_rules) (n := 63) (qual := "law") (st := K67.s_law) (N := K67.n_law) (M1 := []) (o := K67.o_law) rfl (by decide) rfl (fun w h Y => PySem.W.kIn_of Y) K67.sc_law (by decide) ?F K67.math
  case F =>
    intro w mg fa h KX G hmg
    refine' K67.all_mk KX G hmg ?a_HouseError ?a_OutOfRange ?a_ini ?l_ini ?c_ini ?k_ini ?t_ini ?vV ?cl_HouseError ?bm_HouseErrorx ?sa_HouseError ?ex_HouseError ?ty_HouseError ?kc_HouseError ?at_HouseError ?ga_HouseError ?gg_HouseError ?hd_HouseError ?ca_HouseError ?mo_HouseError ?cl_OutOfRange ?bm_OutOfRangex ?sa_OutOfRange ?ex_OutOfRange ?ty_OutOfRange ?kc_OutOfRange ?in_OutOfRange ?at_OutOfRange ?ga_OutOfRange ?gg_OutOfRange ?hd_OutOfRange ?ca_OutOfRange ?mo_OutOfRange ?spx ?tkx ?s_HouseError_HouseError ?s_OutOfRange_HouseError ?s_HouseError_OutOfRange ?s_OutOfRange_OutOfRange ?n_HouseError_OutOfRange ?z_ValueError ?a_check_symbol ?l_check_symbol ?c_check_symbol ?k_check_symbol ?a_match_behind ?l_match_behind ?c_match_behind ?k_match_behind ?a_meetings ?l_meetings ?c_meetings ?k_meetings ?a_count_in ?l_count_in ?c_count_in ?k_count_in ?a_count_of ?l_count_of ?c_count_of ?k_count_of ?a__law_numbers ?l__law_numbers ?c__law_numbers ?k__law_numbers ?a__law_drawn ?l__law_drawn ?c__law_drawn ?k__law_drawn ?a__law_symbols ?l__law_symbols ?c__law_symbols ?k__law_symbols ?a__law_roots ?l__law_roots ?c__law_roots ?k__law_roots ?a__law_sizes ?l__law_sizes ?c__law_sizes ?k__law_sizes ?a__law_texts ?l__law_texts ?c__law_texts ?k__law_texts ?a__law_scan ?l__law_scan ?c__law_scan ?k__law_scan ?a__law_edges ?l__law_edges ?c__law_edges ?k__law_edges ?a__law_counts ?l__law_counts ?c__law_counts ?k__law_counts ?a__law_word ?l__law_word ?c__law_word ?k__law_word ?a__law_power ?l__law_power ?c__law_power ?k__law_power ?a__law_known ?l__law_known ?c__law_known ?k__law_known ?a_law ?l_law ?c_law ?k_law ?z_abs ?z_int ?z_isinstance ?z_len ?z_max ?z_min ?z_range ?z_repr ?z_sum ?nolist
    (case a_HouseError => k_is)
    (case a_OutOfRange => k_is)
    (case a_ini => k_is)
    (case l_ini => k_is)
    (case c_ini => k_is)
    (case k_ini => k_is)
    (case t_ini => k_is)
    (case vV => k_is)
    (case cl_HouseError => k_is)
    (case bm_HouseErrorx => decide +kernel)
    (case sa_HouseError => k_is)
    (case ex_HouseError => k_is)
    (case ty_HouseError => k_is)
    (case kc_HouseError => k_is)
    (case at_HouseError => k_is)
    (case ga_HouseError => k_is)
    (case gg_HouseError => k_is)
    (case hd_HouseError => k_is)
    (case ca_HouseError => k_is)
    (case mo_HouseError => k_is)
    (case cl_OutOfRange => k_is)
    (case bm_OutOfRangex => decide +kernel)
    (case sa_OutOfRange => k_is)
    (case ex_OutOfRange => k_is)
    (case ty_OutOfRange => k_is)
    (case kc_OutOfRange => k_is)
    (case in_OutOfRange => k_is)
    (case at_OutOfRange => k_is)
    (case ga_OutOfRange => k_is)
    (case gg_OutOfRange => k_is)
    (case hd_OutOfRange => k_is)
    (case ca_OutOfRange => k_is)
    (case mo_OutOfRange => k_is)
    (case spx => k_is)
    (case tkx => k_is)
    (case s_HouseError_HouseError => k_is)
    (case s_OutOfRange_HouseError => k_is)
    (case s_HouseError_OutOfRange => k_is)
    (case s_OutOfRange_OutOfRange => k_is)
    (case n_HouseError_OutOfRange => first | rfl | decide +kernel)
    (case z_ValueError => k_is)
    (case a_check_symbol => k_is)
    (case l_check_symbol => k_is)
    (case c_check_symbol => k_is)
    (case k_check_symbol => k_is)
    (case a_match_behind => k_is)
    (case l_match_behind => k_is)
    (case c_match_behind => k_is)
    (case k_match_behind => k_is)
    (case a_meetings => k_is)
    (case l_meetings => k_is)
    (case c_meetings => k_is)
    (case k_meetings => k_is)
    (case a_count_in => k_is)
    (case l_count_in => k_is)
    (case c_count_in => k_is)
    (case k_count_in => k_is)
    (case a_count_of => k_is)
    (case l_count_of => k_is)
    (case c_count_of => k_is)
    (case k_count_of => k_is)
    (case a__law_numbers => k_is)
    (case l__law_numbers => k_is)
    (case c__law_numbers => k_is)
    (case k__law_numbers => k_is)
    (case a__law_drawn => k_is)
    (case l__law_drawn => k_is)
    (case c__law_drawn => k_is)
    (case k__law_drawn => k_is)
    (case a__law_symbols => k_is)
    (case l__law_symbols => k_is)
    (case c__law_symbols => k_is)
    (case k__law_symbols => k_is)
    (case a__law_roots => k_is)
    (case l__law_roots => k_is)
    (case c__law_roots => k_is)
    (case k__law_roots => k_is)
    (case a__law_sizes => k_is)
    (case l__law_sizes => k_is)
    (case c__law_sizes => k_is)
    (case k__law_sizes => k_is)
    (case a__law_texts => k_is)
    (case l__law_texts => k_is)
    (case c__law_texts => k_is)
    (case k__law_texts => k_is)
    (case a__law_scan => k_is)
    (case l__law_scan => k_is)
    (case c__law_scan => k_is)
    (case k__law_scan => k_is)
    (case a__law_edges => k_is)
    (case l__law_edges => k_is)
    (case c__law_edges => k_is)
    (case k__law_edges => k_is)
    (case a__law_counts => k_is)
    (case l__law_counts => k_is)
    (case c__law_counts => k_is)
    (case k__law_counts => k_is)
    (case a__law_word => k_is)
    (case l__law_word => k_is)
    (case c__law_word => k_is)
    (case k__law_word => k_is)
    (case a__law_power => k_is)
    (case l__law_power => k_is)
    (case c__law_power => k_is)
    (case k__law_power => k_is)
    (case a__law_known => k_is)
    (case l__law_known => k_is)
    (case c__law_known => k_is)
    (case k__law_known => k_is)
    (case a_law => k_is)
    (case l_law => k_is)
    (case c_law => k_is)
    (case k_law => k_is)
    (case z_abs => k_is)
    (case z_int => k_is)
    (case z_isinstance => k_is)
    (case z_len => k_is)
    (case z_max => k_is)
    (case z_min => k_is)
    (case z_range => k_is)
    (case z_repr => k_is)
    (case z_sum => k_is)
    (case nolist => first | rfl | decide +kernel)