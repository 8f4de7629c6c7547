import PyProof.Rows.All
import HandS.ForMost
import HandS.ForExc
import HandS.TupAny
import HandS.Deep
import HandS.Star
import HandS.IsInst
import HandS.ExcInit
import HandS.ExcIs
import HandS.ExcField
import KE.KExcIs
import HandS.Replace
import PyProof.LongRange
import KE.DataCmp
import PyProof.StrLawsIn
import PySem.Challenge.RW_suffixhouse_k48_words_cut_by_a_house
set_option Elab.async false
set_option linter.all false
set_option maxRecDepth 100000
namespace DL
open PySem PySem.Spec L2

abbrev D := PyData
/-- addresses that are owned by someone: frozen data does not reach them -/
abbrev AS := Addr → Prop

inductive Res (α : Type) where
  | ok (a : α) | exc (c : Str) (at' : D) | err
def Res.bind {α β : Type} (x : Res α) (f : α → Res β) : Res β := match x with
  | .ok a => f a
  | .exc c d => .exc c d
  | .err => .err
instance : Monad Res where
  pure := Res.ok
  bind := Res.bind
@[simp] theorem Res.bind_ok {α β : Type} (a : α) (f : α → Res β) : (Res.ok a).bind f = f a := rfl
@[simp] theorem Res.bind_exc {α β : Type} (c : Str) (d : D) (f : α → Res β) : (Res.exc c d).bind f = .exc c d := rfl
@[simp] theorem Res.bind_err {α β : Type} (f : α → Res β) : (Res.err).bind f = .err := rfl

def kD : Key → D
  | .inl i => .int i
  | .inr x => .str x

mutual
inductive Rp (H : Hp) (O : AS) : D → V → Prop
  | non : Rp H O .none .non
  | bl (b : Bool) : Rp H O (.bool b) (.bl b)
  | int (i : Int) : Rp H O (.int i) (.int i)
  | str (x : Str) : Rp H O (.str x) (.str x)
  | lst {a : Addr} {xs : List V} {ds : List D} : ¬ O a → Rd H a (.lst xs) → RpA H O ds xs → Rp H O (.list ds) (.ref a)
  | tup {a : Addr} {xs : List V} {ds : List D} : ¬ O a → Rd H a (.tup xs) → RpA H O ds xs → Rp H O (.tuple ds) (.ref a)
  | dK {a : Addr} {kvs : List (Key × V)} {ds : List (D × D)} : ¬ O a → Rd H a (.dK kvs) → RpK H O ds kvs → Rp H O (.dict ds) (.ref a)
  | dT {a : Addr} {kvs : List (List Key × V)} {ds : List (D × D)} : ¬ O a → Rd H a (.dT kvs) → RpT H O ds kvs → Rp H O (.dict ds) (.ref a)
inductive RpA (H : Hp) (O : AS) : List D → List V → Prop
  | nil : RpA H O [] []
  | cons {d : D} {v : V} {ds : List D} {vs : List V} : Rp H O d v → RpA H O ds vs → RpA H O (d :: ds) (v :: vs)
inductive RpK (H : Hp) (O : AS) : List (D × D) → List (Key × V) → Prop
  | nil : RpK H O [] []
  | cons {k : Key} {d : D} {v : V} {ds : List (D × D)} {vs : List (Key × V)} : Rp H O d v → RpK H O ds vs → RpK H O ((kD k, d) :: ds) ((k, v) :: vs)
inductive RpT (H : Hp) (O : AS) : List (D × D) → List (List Key × V) → Prop
  | one {k : List Key} {d : D} {v : V} : Rp H O d v → RpT H O [(.tuple (k.map kD), d)] [(k, v)]
  | cons {k : List Key} {d : D} {v : V} {ds : List (D × D)} {vs : List (List Key × V)} : Rp H O d v → RpT H O ds vs → RpT H O ((.tuple (k.map kD), d) :: ds) ((k, v) :: vs)
end

/-- what is readable and not owned in H is so in H'; what is locked stays so -/
def Sub (H : Hp) (O : AS) (H' : Hp) (O' : AS) : Prop := (∀ a u, ¬ O a → Rd H a u → Rd H' a u ∧ ¬ O' a) ∧ ∀ a o u, ¬ O a → H a = some (.frz o u) → H' a = some (.frz o u)
theorem Sub.refl (H : Hp) (O : AS) : Sub H O H O := ⟨fun _ _ h r => ⟨r, h⟩, fun _ _ _ _ e => e⟩
theorem Sub.trans {H H1 H2 : Hp} {O O1 O2 : AS} (s : Sub H O H1 O1) (t : Sub H1 O1 H2 O2) : Sub H O H2 O2 := ⟨fun a u h r =>
  let ⟨r1, h1⟩ := s.1 a u h r
  t.1 a u h1 r1, fun a o u h e => t.2 a o u (s.1 a u h (.inr ⟨o, e⟩)).2 (s.2 a o u h e)⟩
theorem rd_same {H H' : Hp} {a : Addr} {u : HO} (s : Same H H') (r : Rd H a u) : Rd H' a u := by
  rcases r with r | ⟨o, r⟩
  · exact .inl (s _ _ r)
  · exact .inr ⟨o, s _ _ r⟩
theorem rd_ne_none {H : Hp} {a : Addr} {u : HO} (r : Rd H a u) : H a ≠ none := by
  rcases r with r | ⟨o, r⟩ <;> (rw [r]; exact fun h => nomatch h)
theorem Sub.same {H H' : Hp} (s : Same H H') (O : AS) : Sub H O H' O := ⟨fun _ _ h r => ⟨rd_same s r, h⟩, fun _ _ _ _ e => s _ _ e⟩
/-- a new address is owned -/
theorem Sub.more {H : Hp} {O : AS} {p : Addr} (h : H p = none) : Sub H O H (fun b => O b ∨ b = p) := ⟨fun a u ha r => ⟨r, fun z => by
  rcases z with z | z
  · exact ha z
  · subst z; exact rd_ne_none r h⟩, fun _ _ _ _ e => e⟩
theorem Sub.less {H : Hp} {O O' : AS} (h : ∀ a, O' a → O a) : Sub H O H O' := ⟨fun a u ha r => ⟨r, fun z => ha (h a z)⟩, fun _ _ _ _ e => e⟩
/-- an owned object is written -/
theorem Sub.upd {H : Hp} {O : AS} {p : Addr} {o : HO} (h : O p) : Sub H O (upd H p o) O := by
  have ne : ∀ a, ¬ O a → a ≠ p := fun a ha e => by subst e; exact ha h
  refine ⟨fun a u ha r => ⟨?_, ha⟩, fun a o u ha e => by rw [upd_ne (ne a ha)]; exact e⟩
  rcases r with r | ⟨o, r⟩
  · exact .inl (by rw [upd_ne (ne a ha)]; exact r)
  · exact .inr ⟨o, by rw [upd_ne (ne a ha)]; exact r⟩

section
variable {H H' : Hp} {O O' : AS}
mutual
theorem Rp.mono (s : Sub H O H' O') : ∀ {d : D} {v : V}, Rp H O d v → Rp H' O' d v
  | _, _, .non => .non
  | _, _, .bl b => .bl b
  | _, _, .int i => .int i
  | _, _, .str x => .str x
  | _, _, .lst h r q => .lst (s.1 _ _ h r).2 (s.1 _ _ h r).1 (RpA.mono s q)
  | _, _, .tup h r q => .tup (s.1 _ _ h r).2 (s.1 _ _ h r).1 (RpA.mono s q)
  | _, _, .dK h r q => .dK (s.1 _ _ h r).2 (s.1 _ _ h r).1 (RpK.mono s q)
  | _, _, .dT h r q => .dT (s.1 _ _ h r).2 (s.1 _ _ h r).1 (RpT.mono s q)
theorem RpA.mono (s : Sub H O H' O') : ∀ {ds : List D} {vs : List V}, RpA H O ds vs → RpA H' O' ds vs
  | _, _, .nil => .nil
  | _, _, .cons a b => .cons (Rp.mono s a) (RpA.mono s b)
theorem RpK.mono (s : Sub H O H' O') : ∀ {ds : List (D × D)} {vs : List (Key × V)}, RpK H O ds vs → RpK H' O' ds vs
  | _, _, .nil => .nil
  | _, _, .cons a b => .cons (Rp.mono s a) (RpK.mono s b)
theorem RpT.mono (s : Sub H O H' O') : ∀ {ds : List (D × D)} {vs : List (List Key × V)}, RpT H O ds vs → RpT H' O' ds vs
  | _, _, .one a => .one (Rp.mono s a)
  | _, _, .cons a b => .cons (Rp.mono s a) (RpT.mono s b)
end
end

/-- the object at a, its content over what is not owned -/
inductive Rt (H : Hp) (O : AS) : D → Addr → Prop
  | lst {a : Addr} {xs : List V} {ds : List D} : H a = some (.lst xs) → RpA H O ds xs → Rt H O (.list ds) a
  | dK {a : Addr} {kvs : List (Key × V)} {ds : List (D × D)} : H a = some (.dK kvs) → RpK H O ds kvs → Rt H O (.dict ds) a
  | dT {a : Addr} {kvs : List (List Key × V)} {ds : List (D × D)} : H a = some (.dT kvs) → RpT H O ds kvs → Rt H O (.dict ds) a
/-- a value whose root may be owned -/
inductive Rc (H : Hp) (O : AS) : D → V → Prop
  | of {d : D} {v : V} : Rp H O d v → Rc H O d v
  | rt {d : D} {a : Addr} : Rt H O d a → Rc H O d (.ref a)

theorem Rt.mono {H H' : Hp} {O O' : AS} {d : D} {a : Addr} (s : Sub H O H' O') (e : H' a = H a) (r : Rt H O d a) : Rt H' O' d a := by
  cases r with
  | lst h q => exact .lst (e.trans h) (q.mono s)
  | dK h q => exact .dK (e.trans h) (q.mono s)
  | dT h q => exact .dT (e.trans h) (q.mono s)
theorem Rt.same {H H' : Hp} {O O' : AS} {d : D} {a : Addr} (s : Same H H') (t : Sub H O H' O') (r : Rt H O d a) : Rt H' O' d a := by
  cases r with
  | lst h q => exact .lst (s _ _ h) (q.mono t)
  | dK h q => exact .dK (s _ _ h) (q.mono t)
  | dT h q => exact .dT (s _ _ h) (q.mono t)
theorem Rc.same {H H' : Hp} {O : AS} {d : D} {v : V} (s : Same H H') (r : Rc H O d v) : Rc H' O d v := by
  cases r with
  | of r => exact .of (r.mono (Sub.same s O))
  | rt r => exact .rt (r.same s (Sub.same s O))
theorem Rc.mono {H H' : Hp} {O O' : AS} {d : D} {v : V} (s : Sub H O H' O') (e : ∀ a, H' a = H a) (r : Rc H O d v) : Rc H' O' d v := by
  cases r with
  | of r => exact .of (r.mono s)
  | rt r => exact .rt (r.mono s (e _))
theorem Rt.rp {H : Hp} {O O' : AS} {d : D} {a : Addr} (t : Sub H O H O') (h : ¬ O' a) (r : Rt H O d a) : Rp H O' d (.ref a) := by
  cases r with
  | lst e q => exact .lst h (.inl e) (q.mono t)
  | dK e q => exact .dK h (.inl e) (q.mono t)
  | dT e q => exact .dT h (.inl e) (q.mono t)

/-! ### the frame's state -/
inductive Md where
  | fz | ow | un | ex (a : Addr)
  deriving DecidableEq
abbrev Env' := List (Option D)
structure SR (H0 : Hp) (O0 : AS) (M : List Md) (O : AS) (env : Env') (σ : St) (H : Hp) : Prop where
  same : Same H0 H
  sub0 : ∀ a, O0 a → O a
  tr : ∀ a, O a → ∃ o, H a = some o ∧ Mut (some o)
  new : ∀ a, O a → O0 a ∨ H0 a = none
  len : env.length = σ.length
  fz : ∀ (i : Nat) (d : D), M[i]? = some .fz → env[i]? = some (some d) → ∃ v, σ[i]? = some (some v) ∧ Rp H O d v
  ow : ∀ (i : Nat) (d : D), M[i]? = some .ow → env[i]? = some (some d) → ∃ a, σ[i]? = some (some (.ref a)) ∧ O a ∧ ¬ O0 a ∧ Rt H O d a
  dist : ∀ (i j : Nat) (d e : D) (a : Addr), M[i]? = some .ow → M[j]? = some .ow → env[i]? = some (some d) → env[j]? = some (some e) → σ[i]? = some (some (.ref a)) → σ[j]? = some (some (.ref a)) → i = j
  exs : ∀ (i : Nat) (a : Addr), M[i]? = some (.ex a) → σ[i]? = some (some (.ref a))

theorem SR.grow {H0 H H' : Hp} {O0 O : AS} {M : List Md} {env : Env'} {σ : St} (r : SR H0 O0 M O env σ H) (s : Same H H') : SR H0 O0 M O env σ H' where
  same := r.same.trans s
  sub0 := r.sub0
  tr := fun a h => let ⟨o, e, m⟩ := r.tr a h; ⟨o, s _ _ e, m⟩
  new := r.new
  len := r.len
  fz := fun i d hm he => let ⟨v, e, q⟩ := r.fz i d hm he; ⟨v, e, q.mono (Sub.same s O)⟩
  ow := fun i d hm he => let ⟨a, e, h1, h2, q⟩ := r.ow i d hm he; ⟨a, e, h1, h2, q.same s (Sub.same s O)⟩
  dist := r.dist
  exs := r.exs

/-- the ground of a def: the heap and what is owned at its entry, the wish of an exception, the module's names -/
structure Gr (ex : Option (Addr × D)) where
  H0 : Hp
  O0 : AS
  hex : ∀ p, ex = some p → ∃ va, H0 p.1 = some (.xd [(("at" : Str), va)]) ∧ Rp H0 O0 p.2 va
/-- the wish of an exception, the module's names -/
structure Gd where
  W : WX
  mg : Str → Option Value
  ex : Option (Addr × D) := none

inductive Kd where
  | pl | co | fr | lf
def RK (k : Kd) (H : Hp) (O : AS) (H' : Hp) (d : D) (v : V) : Prop := match k with
  | .pl => Rp H' O d v
  | .co => Rc H' O d v
  | .fr => ∃ a, v = .ref a ∧ H a = none ∧ Rt H' (fun b => O b ∨ b = a) d a
  | .lf => (Rp H' O d v ∧ ∀ ds, d ≠ .list ds) ∨ ∃ a, v = .ref a ∧ H a = none ∧ Rt H' (fun b => O b ∨ b = a) d a
theorem RK.co {k : Kd} {H H' : Hp} {O : AS} {d : D} {v : V} (r : RK k H O H' d v) : Rc H' O d v := by
  cases k with
  | pl => exact .of r
  | co => exact r
  | fr =>
    obtain ⟨a, rfl, _, q⟩ := r
    cases q with
    | lst h q => exact .rt (.lst h (q.mono (Sub.less fun b z => .inl z)))
    | dK h q => exact .rt (.dK h (q.mono (Sub.less fun b z => .inl z)))
    | dT h q => exact .rt (.dT h (q.mono (Sub.less fun b z => .inl z)))
  | lf =>
    rcases r with ⟨r, _⟩ | ⟨a, rfl, _, q⟩
    · exact .of r
    · cases q with
      | lst h q => exact .rt (.lst h (q.mono (Sub.less fun b z => .inl z)))
      | dK h q => exact .rt (.dK h (q.mono (Sub.less fun b z => .inl z)))
      | dT h q => exact .rt (.dT h (q.mono (Sub.less fun b z => .inl z)))
theorem RK.pl {H H' : Hp} {O : AS} {d : D} {v : V} (tr : ∀ a, O a → ∃ o, H a = some o ∧ Mut (some o)) (r : RK .fr H O H' d v) : Rp H' O d v := by
  obtain ⟨a, rfl, n, q⟩ := r
  refine q.rp (Sub.less fun b z => .inl z) fun z => ?_
  obtain ⟨o, e, _⟩ := tr a z
  rw [n] at e; cases e

/-- what is wanted of an exception -/
def XW (G : Gd) (O : AS) (σ : St) (H : Hp) (c : Str) (d : D) : Prop :=
  ∀ H' dd cls va, Same H H' → G.mg c = some cls → H' dd = some (.xd [(("at" : Str), va)]) → Rp H' O d va → G.W cls (some dd) σ H'
theorem XW.grow {G : Gd} {O : AS} {σ : St} {H H1 : Hp} {c : Str} {d : D} (s : Same H H1) (x : XW G O σ H c d) : XW G O σ H1 c d := fun H' dd cls va s' => x H' dd cls va (s.trans s')
def tE (G : Gd) (M : List Md) (k : Kd) (m : Env' → Res D) : TE := fun σ H Q => ∃ (g : Gr G.ex) (O : AS) (env : Env'), SR g.H0 g.O0 M O env σ H ∧ match m env with
  | .ok d => ∀ H' v, Same H H' → RK k H O H' d v → Q v H'
  | .exc c d => XW G O σ H c d
  | .err => False
def DE (X : Cx) (G : Gd) (M : List Md) (k : Kd) (e : Expr) (m : Env' → Res D) : Prop := PE X e (tE G M k m)

/-- weaker readings -/
theorem pe_imp {X : Cx} {e : Expr} {t t' : TE} (h : PE X e t) (i : ∀ σ H Q, t' σ H Q → t σ H Q) : PE X e t' := ⟨fun pins s σ H Q I q => h.run pins s σ H Q I (i σ H Q q)⟩
theorem DE.co {X : Cx} {G : Gd} {M : List Md} {k : Kd} {e : Expr} {m : Env' → Res D} (h : DE X G M k e m) : DE X G M .co e m := pe_imp h fun σ H Q ⟨g, O, env, sr, q⟩ => by
  refine ⟨g, O, env, sr, ?_⟩
  cases hm : m env with
  | ok d => rw [hm] at q; exact fun H' v s r => q H' v s r.co
  | exc c d => rw [hm] at q; exact q
  | err => rw [hm] at q; exact q
theorem DE.pl {X : Cx} {G : Gd} {M : List Md} {e : Expr} {m : Env' → Res D} (h : DE X G M .fr e m) : DE X G M .pl e m := pe_imp h fun σ H Q ⟨g, O, env, sr, q⟩ => by
  refine ⟨g, O, env, sr, ?_⟩
  cases hm : m env with
  | ok d => rw [hm] at q; exact fun H' v s r => q H' v s (r.pl sr.tr)
  | exc c d => rw [hm] at q; exact q
  | err => rw [hm] at q; exact q
end DL

namespace DL
open PySem PySem.Spec L2

def Res.of {α : Type} : Option α → Res α
  | some a => .ok a
  | none => .err
@[simp] theorem Res.of_some {α : Type} (a : α) : Res.of (some a) = .ok a := rfl
@[simp] theorem Res.of_none {α : Type} : (Res.of (none : Option α)) = .err := rfl

abbrev Trk (H : Hp) (O : AS) : Prop := ∀ a, O a → ∃ o, H a = some o ∧ Mut (some o)
theorem Trk.grow {H H' : Hp} {O : AS} (t : Trk H O) (s : Same H H') : Trk H' O := fun a h => let ⟨o, e, m⟩ := t a h; ⟨o, s _ _ e, m⟩
theorem Trk.not {H : Hp} {O : AS} (t : Trk H O) {p : Addr} (h : H p = none) : ¬ O p := fun z => by
  obtain ⟨o, e, _⟩ := t p z
  rw [h] at e; cases e
theorem same_new {H : Hp} {p : Addr} {o : HO} (h : H p = none) : Same H (upd H p o) := fun b u e => by
  rw [upd_ne (ne_of_none e h)]; exact e

theorem RK.back {k : Kd} {H H1 H' : Hp} {O : AS} {d : D} {v : V} (s : Same H H1) (r : RK k H1 O H' d v) : RK k H O H' d v := by
  cases k with
  | pl => exact r
  | co => exact r
  | fr => obtain ⟨a, e, n, q⟩ := r; exact ⟨a, e, s.free n, q⟩
  | lf =>
    rcases r with r | ⟨a, e, n, q⟩
    · exact .inl r
    · exact .inr ⟨a, e, s.free n, q⟩

section
variable {X : Cx} {G : Gd} {M : List Md} {k : Kd}
def B2 (k : Kd) (r : R2) (f : D → D → Option D) : Prop := ∀ {H : Hp} {O : AS} {x y : V} {dx dy d : D} {Q : VK}, Trk H O → Rc H O dx x → Rc H O dy y → f dx dy = some d →
  (∀ H' v, Same H H' → RK k H O H' d v → Q v H') → r x y H Q
def m2 (f : D → D → Option D) (ma mb : Env' → Res D) : Env' → Res D := fun env => (ma env).bind fun x => (mb env).bind fun y => Res.of (f x y)
theorem tOp_ok {r : R2} {f : D → D → Option D} {ma mb : Env' → Res D} (hB : B2 k r f) (σ : L2.St) (H : Hp) (Q : VK) (h : tE G M k (m2 f ma mb) σ H Q) : tOp r (tE G M .co ma) (tE G M .co mb) σ H Q := by
  obtain ⟨g, O, env, sr, q⟩ := h
  refine ⟨g, O, env, sr, ?_⟩
  unfold m2 at q
  cases ha : ma env with
  | err => rw [ha] at q; exact q
  | exc c d => rw [ha] at q; exact q
  | ok x =>
    rw [ha, Res.bind_ok] at q
    intro H1 v1 s1 r1
    refine ⟨g, O, env, sr.grow s1, ?_⟩
    cases hb : mb env with
    | err => rw [hb] at q; exact q
    | exc c d => rw [hb] at q; exact XW.grow s1 q
    | ok y =>
      rw [hb, Res.bind_ok] at q
      intro H2 v2 s2 r2
      cases hf : f x y with
      | none => rw [hf] at q; exact q.elim
      | some d =>
        rw [hf] at q
        exact hB (Trk.grow sr.tr (s1.trans s2)) (Rc.same s2 r1) r2 hf fun H' v s r => q H' v ((s1.trans s2).trans s) (RK.back (s1.trans s2) r)
def U1 (k : Kd) (r : V → Hp → VK → Prop) (f : D → Option D) : Prop := ∀ {H : Hp} {O : AS} {x : V} {dx d : D} {Q : VK}, Trk H O → Rc H O dx x → f dx = some d →
  (∀ H' v, Same H H' → RK k H O H' d v → Q v H') → r x H Q
def m1 (f : D → Option D) (ma : Env' → Res D) : Env' → Res D := fun env => (ma env).bind fun x => Res.of (f x)
theorem tUn_ok {r : V → Hp → VK → Prop} {f : D → Option D} {ma : Env' → Res D} (hB : U1 k r f) (σ : L2.St) (H : Hp) (Q : VK) (h : tE G M k (m1 f ma) σ H Q) : tUn r (tE G M .co ma) σ H Q := by
  obtain ⟨g, O, env, sr, q⟩ := h
  refine ⟨g, O, env, sr, ?_⟩
  unfold m1 at q
  cases ha : ma env with
  | err => rw [ha] at q; exact q
  | exc c d => rw [ha] at q; exact q
  | ok x =>
    rw [ha, Res.bind_ok] at q
    intro H1 v1 s1 r1
    cases hf : f x with
    | none => rw [hf] at q; exact q.elim
    | some d =>
      rw [hf] at q
      exact hB (Trk.grow sr.tr s1) r1 hf fun H' v s r => q H' v (s1.trans s) (RK.back s1 r)

/-! ### names and constants -/
def mVar (i : Nat) : Env' → Res D := fun env => match env[i]? with
  | some (some d) => .ok d
  | _ => .err
def mC (d : D) : Env' → Res D := fun _ => .ok d
/-- a frozen slot -/
theorem de_var {i : Nat} {e : Expr} (h : PE X e (tVar i)) (hm : M[i]? = some .fz) : DE X G M .pl e (mVar i) := pe_imp h fun σ H Q ⟨g, O, env, sr, q⟩ => by
  unfold mVar at q
  cases he : env[i]? with
  | none => rw [he] at q; exact q.elim
  | some o =>
    cases o with
    | none => rw [he] at q; exact q.elim
    | some d =>
      rw [he] at q
      obtain ⟨v, ev, r⟩ := sr.fz i d hm he
      exact ⟨v, ev, q H v (Same.refl H) r⟩
/-- an owned slot, looked at -/
theorem de_varO {i : Nat} {e : Expr} (h : PE X e (tVar i)) (hm : M[i]? = some .ow) : DE X G M .co e (mVar i) := pe_imp h fun σ H Q ⟨g, O, env, sr, q⟩ => by
  unfold mVar at q
  cases he : env[i]? with
  | none => rw [he] at q; exact q.elim
  | some o =>
    cases o with
    | none => rw [he] at q; exact q.elim
    | some d =>
      rw [he] at q
      obtain ⟨a, ev, _, _, r⟩ := sr.ow i d hm he
      exact ⟨_, ev, q H _ (Same.refl H) (.rt r)⟩
theorem de_c {e : Expr} {v : V} {d : D} (h : PE X e (tC v)) (r : ∀ H O, Rp H O d v) : DE X G M .pl e (mC d) := pe_imp h fun σ H Q ⟨g, O, env, sr, q⟩ => q H v (Same.refl H) (r H O)
theorem de_int {i : Int} {j pos} : DE X G M .pl (.Constant (.int i) j pos) (mC (.int i)) := de_c pe_int fun _ _ => .int i
theorem de_bl {b : Bool} {j pos} : DE X G M .pl (.Constant (.bool b) j pos) (mC (.bool b)) := de_c pe_bl fun _ _ => .bl b
theorem de_non {j pos} : DE X G M .pl (.Constant .none j pos) (mC .none) := de_c pe_non fun _ _ => .non
theorem de_str {x : Str} {j pos} : DE X G M .pl (.Constant (.str x) j pos) (mC (.str x)) := de_c pe_str fun _ _ => .str x

/-! ### operators -/
theorem Rc.int_inv {H : Hp} {O : AS} {i : Int} {v : V} (r : Rc H O (.int i) v) : v = .int i := by
  cases r with
  | of r => cases r; rfl
  | rt r => cases r
theorem Rc.str_inv {H : Hp} {O : AS} {x : Str} {v : V} (r : Rc H O (.str x) v) : v = .str x := by
  cases r with
  | of r => cases r; rfl
  | rt r => cases r
theorem Rc.bl_inv {H : Hp} {O : AS} {b : Bool} {v : V} (r : Rc H O (.bool b) v) : v = .bl b := by
  cases r with
  | of r => cases r; rfl
  | rt r => cases r
theorem Rc.non_inv {H : Hp} {O : AS} {v : V} (r : Rc H O .none v) : v = .non := by
  cases r with
  | of r => cases r; rfl
  | rt r => cases r
theorem Rc.list_inv {H : Hp} {O : AS} {ds : List D} {v : V} (r : Rc H O (.list ds) v) : ∃ a xs, v = .ref a ∧ Rd H a (.lst xs) ∧ RpA H O ds xs := by
  cases r with
  | of r => cases r with | lst h e q => exact ⟨_, _, rfl, e, q⟩
  | rt r => cases r with | lst e q => exact ⟨_, _, rfl, .inl e, q⟩
theorem Rc.tuple_inv {H : Hp} {O : AS} {ds : List D} {v : V} (r : Rc H O (.tuple ds) v) : ∃ a xs, v = .ref a ∧ Rd H a (.tup xs) ∧ RpA H O ds xs := by
  cases r with
  | of r => cases r with | tup h e q => exact ⟨_, _, rfl, e, q⟩
  | rt r => cases r
theorem Rd.seqL {K : PySem.W.Frag} {H : Hp} {a : Addr} {xs : List V} (r : L2.Rd H a (.lst xs)) : SqL K H a xs := .inl r
theorem Rd.seqT {K : PySem.W.Frag} {H : Hp} {a : Addr} {xs : List V} (r : L2.Rd H a (.tup xs)) : SqT K H a xs := .inl r
theorem RpA.length {H : Hp} {O : AS} : ∀ {ds : List D} {vs : List V}, RpA H O ds vs → ds.length = vs.length
  | _, _, .nil => rfl
  | _, _, .cons _ t => congrArg (· + 1) (RpA.length t)
theorem RpA.append {H : Hp} {O : AS} : ∀ {ds es : List D} {vs ws : List V}, RpA H O ds vs → RpA H O es ws → RpA H O (ds ++ es) (vs ++ ws)
  | _, _, _, _, .nil, t => t
  | _, _, _, _, .cons a b, t => .cons a (RpA.append b t)
theorem RpA.get {H : Hp} {O : AS} : ∀ {ds : List D} {vs : List V} {i : Nat} {d : D}, RpA H O ds vs → ds[i]? = some d → ∃ v, vs[i]? = some v ∧ Rp H O d v
  | _, _, i, _, .nil, e => by simp at e
  | _, _, 0, _, .cons a b, e => by simp at e; subst e; exact ⟨_, rfl, a⟩
  | _, _, i + 1, _, .cons a b, e => by
    simp only [List.getElem?_cons_succ] at e ⊢
    exact RpA.get b e
theorem RpA.take {H : Hp} {O : AS} : ∀ {ds : List D} {vs : List V} (n : Nat), RpA H O ds vs → RpA H O (ds.take n) (vs.take n)
  | _, _, 0, _ => by simpa using RpA.nil
  | _, _, n + 1, .nil => by simpa using RpA.nil
  | _, _, n + 1, .cons a b => by simpa using RpA.cons a (RpA.take n b)
theorem RpA.drop {H : Hp} {O : AS} : ∀ {ds : List D} {vs : List V} (n : Nat), RpA H O ds vs → RpA H O (ds.drop n) (vs.drop n)
  | _, _, 0, h => by simpa using h
  | _, _, n + 1, .nil => by simpa using RpA.nil
  | _, _, n + 1, .cons a b => by simpa using RpA.drop n b
theorem RpA.set {H : Hp} {O : AS} {d : D} {v : V} (r : Rp H O d v) : ∀ {ds : List D} {vs : List V} (n : Nat), RpA H O ds vs → RpA H O (ds.set n d) (vs.set n v)
  | _, _, n, .nil => by simpa using RpA.nil
  | _, _, 0, .cons a b => by simpa using RpA.cons r b
  | _, _, n + 1, .cons a b => by simpa using RpA.cons a (RpA.set r n b)
theorem RpA.reverse {H : Hp} {O : AS} : ∀ {ds : List D} {vs : List V}, RpA H O ds vs → RpA H O ds.reverse vs.reverse
  | _, _, .nil => .nil
  | _, _, .cons a b => by simpa using (RpA.reverse b).append (.cons a .nil)

/-- a new list at p, its items -/
theorem fr_list {H : Hp} {O : AS} {p : Addr} {ds : List D} {vs : List V} (tr : Trk H O) (hp : H p = none) (r : RpA H O ds vs) : RK .fr H O (upd H p (.lst vs)) (.list ds) (.ref p) :=
  ⟨p, rfl, hp, .lst upd_same (r.mono ((Sub.more hp).trans (Sub.same (same_new hp) _)))⟩
theorem pl_list {H : Hp} {O : AS} {p : Addr} {ds : List D} {vs : List V} (tr : Trk H O) (hp : H p = none) (r : RpA H O ds vs) : Rp (upd H p (.lst vs)) O (.list ds) (.ref p) :=
  RK.pl tr (fr_list tr hp r)
theorem pl_tup {H : Hp} {O : AS} {p : Addr} {ds : List D} {vs : List V} (tr : Trk H O) (hp : H p = none) (r : RpA H O ds vs) : Rp (upd H p (.tup vs)) O (.tuple ds) (.ref p) :=
  .tup (tr.not hp) (.inl upd_same) (r.mono (Sub.same (same_new hp) _))

/-- list + list, read in any way -/
def rCat2 : R2 := fun x y H Q => ∃ l b xs zs, x = .ref l ∧ y = .ref b ∧ L2.Rd H l (.lst xs) ∧ L2.Rd H b (.lst zs) ∧ xs.length + zs.length ≤ sizeLine ∧ ∀ p, H p = none → Q (.ref p) (upd H p (.lst (xs ++ zs)))
theorem op_cat2 : OpR X (binaryOp .Add) rCat2 := by
  intro pins s σ H x y v u Q I rx ry h
  obtain ⟨l, b, xs, zs, rfl, rfl, hH, hB, hz, q⟩ := h
  cases rx
  cases ry
  obtain ⟨z, its, n, r, e⟩ := hH.ok I.hok
  obtain ⟨z2, its2, n2, r2, e2⟩ := hB.ok I.hok
  have hl := r.length
  have hl2 := r2.length
  refine PySem.P.add_list e e2 ?_ (by rw [List.size_toArray, List.size_toArray]; omega)
  have ea : its.toArray ++ its2.toArray = (its ++ its2).toArray := by simp
  rw [ea]
  exact ⟨.ref _, _, I.lnew (t' := s.toks) (r.append r2) (by rw [List.length_append]; omega), rfl, q _ I.fresh⟩
end
end DL

namespace DL
open PySem PySem.Spec L2
section
variable {X : Cx} {G : Gd} {M : List Md} {k : Kd} {ka kb kc : Kd} {a b c : Expr} {ma mb mc : Env' → Res D} {pos : Pos}

/-! ### binary operators -/
theorem de_op {op : Operator} {r : R2} {f : D → D → Option D} (ho : OpR X (binaryOp op) r) (hB : B2 k r f) (ha : DE X G M ka a ma) (hb : DE X G M kb b mb) : DE X G M k (.BinOp a op b pos) (m2 f ma mb) :=
  pe_imp (pe_op ho ha.co hb.co) (tOp_ok hB)
def addD : D → D → Option D
  | .int i, .int j => some (.int (i + j))
  | .str x, .str y => if x.length + y.length ≤ sizeLine then some (.str (x ++ y)) else none
  | .list x, .list y => if x.length + y.length ≤ sizeLine then some (.list (x ++ y)) else none
  | .tuple x, .tuple y => if x.length + y.length ≤ sizeLine then some (.tuple (x ++ y)) else none
  | _, _ => none
def rAddS : R2 := fun x y H Q => ∃ i j, x = .str i ∧ y = .str j ∧ i.length + j.length ≤ sizeLine ∧ Q (.str (i ++ j)) H
def rAddAll (K : PySem.W.Frag) : R2 := fun x y H Q => rI0 (fun i j => .int (i + j)) x y H Q ∨ rAddS x y H Q ∨ rCat2 x y H Q ∨ rCatA K x y H Q
theorem op_addAll : OpR X (binaryOp .Add) (rAddAll X.K) := op_add.or (op_add_str.or (op_cat2.or op_catA))
theorem RpA.nil_iff {H : Hp} {O : AS} {ds : List D} {vs : List V} (r : RpA H O ds vs) : ds = [] ↔ vs = [] := by
  cases r <;> simp
theorem b2_add : B2 .pl (rAddAll X.K) addD := by
  intro H O x y dx dy d Q tr rx ry hf q
  cases dx <;> cases dy <;> simp only [addD] at hf <;> try cases hf
  case int.int i j =>
    cases rx.int_inv; cases ry.int_inv
    exact .inl ⟨i, j, rfl, rfl, q H _ (Same.refl H) (.int _)⟩
  case str.str i j =>
    cases rx.str_inv; cases ry.str_inv
    split at hf <;> cases hf
    rename_i hz
    exact .inr (.inl ⟨i, j, rfl, rfl, hz, q H _ (Same.refl H) (.str _)⟩)
  case list.list ds es =>
    obtain ⟨p, xs, rfl, e1, r1⟩ := rx.list_inv
    obtain ⟨p2, ys, rfl, e2, r2⟩ := ry.list_inv
    split at hf <;> cases hf
    rename_i hz
    exact .inr (.inr (.inl ⟨p, p2, xs, ys, rfl, rfl, e1, e2, by rw [← r1.length, ← r2.length]; exact hz, fun l hl => q _ _ (same_new hl) (pl_list tr hl (r1.append r2))⟩))
  case tuple.tuple ds es =>
    obtain ⟨p, xs, rfl, e1, r1⟩ := rx.tuple_inv
    obtain ⟨p2, ys, rfl, e2, r2⟩ := ry.tuple_inv
    split at hf <;> cases hf
    rename_i hz
    refine .inr (.inr (.inr ⟨p, p2, xs, ys, rfl, rfl, Rd.seqT e1, Rd.seqT e2, by rw [← r1.length, ← r2.length]; exact hz, fun hx => ?_, fun _ hy => ?_, fun _ _ l hl => q _ _ (same_new hl) (pl_tup tr hl (r1.append r2))⟩))
    · have : ds = [] := r1.nil_iff.mpr hx
      subst this
      cases ry with
      | of r => exact q H _ (Same.refl H) r
      | rt r => cases r
    · have : es = [] := r2.nil_iff.mpr hy
      subst this
      rw [List.append_nil] at q
      cases rx with
      | of r => exact q H _ (Same.refl H) r
      | rt r => cases r
/-- a list made by +, owned -/
theorem b2_cat : B2 .fr rCat2 (fun x y => match x, y with | .list x, .list y => if x.length + y.length ≤ sizeLine then some (.list (x ++ y)) else none | _, _ => none) := by
  intro H O x y dx dy d Q tr rx ry hf q
  cases dx <;> cases dy <;> simp only at hf <;> try cases hf
  case list.list ds es =>
    obtain ⟨p, xs, rfl, e1, r1⟩ := rx.list_inv
    obtain ⟨p2, ys, rfl, e2, r2⟩ := ry.list_inv
    split at hf <;> cases hf
    rename_i hz
    exact ⟨p, p2, xs, ys, rfl, rfl, e1, e2, by rw [← r1.length, ← r2.length]; exact hz, fun l hl => q _ _ (same_new hl) (fr_list tr hl (r1.append r2))⟩
theorem de_add (ha : DE X G M ka a ma) (hb : DE X G M kb b mb) : DE X G M .pl (.BinOp a .Add b pos) (m2 addD ma mb) := de_op op_addAll b2_add ha hb
theorem b2_ints {g : Int → Int → Int} {C : Int → Int → Prop} [∀ i j, Decidable (C i j)] : B2 .pl (rI C fun i j => .int (g i j)) (fun x y => match x, y with | .int i, .int j => if C i j then some (.int (g i j)) else none | _, _ => none) := by
  intro H O x y dx dy d Q tr rx ry hf q
  cases dx <;> cases dy <;> simp only at hf <;> try cases hf
  case int.int i j =>
    cases rx.int_inv; cases ry.int_inv
    split at hf <;> cases hf
    rename_i hc
    exact ⟨i, j, rfl, rfl, hc, q H _ (Same.refl H) (.int _)⟩
def subD : D → D → Option D
  | .int i, .int j => some (.int (i - j))
  | _, _ => none
theorem b2_sub : B2 .pl (rI0 fun i j => .int (i - j)) subD := by
  intro H O x y dx dy d Q tr rx ry hf q
  cases dx <;> cases dy <;> simp only [subD] at hf <;> try cases hf
  case int.int i j =>
    cases rx.int_inv; cases ry.int_inv
    exact ⟨i, j, rfl, rfl, q H _ (Same.refl H) (.int _)⟩
theorem de_sub (ha : DE X G M ka a ma) (hb : DE X G M kb b mb) : DE X G M .pl (.BinOp a .Sub b pos) (m2 subD ma mb) := de_op op_sub b2_sub ha hb
instance decMul (i j : Int) : Decidable (CMul i j) := by unfold CMul; exact inferInstance
instance decDiv (i j : Int) : Decidable (CDiv i j) := by unfold CDiv; exact inferInstance
instance decPow (i j : Int) : Decidable (CPow i j) := by unfold CPow; exact inferInstance
def repS (x : Str) (n : Nat) : Str := ⟨(List.replicate n x.cps.toList).flatten.toArray⟩
def mulD : D → D → Option D
  | .int i, .int j => if CMul i j then some (.int (i * j)) else none
  | .list xs, .int j => if -(2 ^ 63) ≤ j ∧ j < 2 ^ 63 ∧ xs.length * j.toNat ≤ sizeLine then some (.list (List.replicate j.toNat xs).flatten) else none
  | _, _ => none
def rRep2 : R2 := fun x y H Q => ∃ l k xs, x = .ref l ∧ y = .int k ∧ L2.Rd H l (.lst xs) ∧ -(2 ^ 63) ≤ k ∧ k < 2 ^ 63 ∧ xs.length * k.toNat ≤ sizeLine ∧
  ∀ p, H p = none → Q (.ref p) (upd H p (.lst (List.replicate k.toNat xs).flatten))
def modD : D → D → Option D
  | .int i, .int j => if 0 < j then some (.int (i % j)) else none
  | _, _ => none
theorem b2_mod : B2 .pl (rI (fun _ j => 0 < j) fun i j => .int (i % j)) modD := b2_ints
def fdivD : D → D → Option D
  | .int i, .int j => if CDiv i j then some (.int (i / j)) else none
  | _, _ => none
theorem b2_fdiv : B2 .pl (rI CDiv fun i j => .int (i / j)) fdivD := b2_ints
def powD : D → D → Option D
  | .int i, .int j => if CPow i j then some (.int (i ^ j.toNat)) else none
  | _, _ => none
theorem b2_pow : B2 .pl (rI CPow fun i j => .int (i ^ j.toNat)) powD := b2_ints
def mulI : D → D → Option D
  | .int i, .int j => if CMul i j then some (.int (i * j)) else none
  | _, _ => none
theorem b2_mulI : B2 .pl (rI CMul fun i j => .int (i * j)) mulI := b2_ints
theorem de_mod (ha : DE X G M ka a ma) (hb : DE X G M kb b mb) : DE X G M .pl (.BinOp a .Mod b pos) (m2 modD ma mb) := de_op op_mod b2_mod ha hb
theorem de_fdiv (ha : DE X G M ka a ma) (hb : DE X G M kb b mb) : DE X G M .pl (.BinOp a .FloorDiv b pos) (m2 fdivD ma mb) := de_op op_fdiv b2_fdiv ha hb
theorem de_pow (ha : DE X G M ka a ma) (hb : DE X G M kb b mb) : DE X G M .pl (.BinOp a .Pow b pos) (m2 powD ma mb) := de_op op_pow b2_pow ha hb
theorem de_mulI (ha : DE X G M ka a ma) (hb : DE X G M kb b mb) : DE X G M .pl (.BinOp a .Mult b pos) (m2 mulI ma mb) := de_op op_mul b2_mulI ha hb
def negD : D → Option D
  | .int i => some (.int (-i))
  | _ => none
theorem u1_neg : U1 .pl (rU fun i => .int (-i)) negD := by
  intro H O x dx d Q tr rx hf q
  cases dx <;> simp only [negD] at hf <;> try cases hf
  cases rx.int_inv
  exact ⟨_, rfl, q H _ (Same.refl H) (.int _)⟩
theorem de_neg (ha : DE X G M ka a ma) : DE X G M .pl (.UnaryOp .USub a pos) (m1 negD ma) := pe_imp (pe_un un_neg ha.co) (tUn_ok u1_neg)

/-! ### comparisons -/
theorem de_cmp {op : CmpOp} {r : R2} {f : D → D → Option D} (ho : OpR X (compareOp op) r) (hB : B2 k r f) (ha : DE X G M ka a ma) (hb : DE X G M kb b mb) (hm : behindInMarks op b = false) : DE X G M k (.Compare a [op] [b] pos) (m2 f ma mb) :=
  pe_imp (pe_cmpR ho ha.co hb.co hm) (tOp_ok hB)
theorem b2_cmpI {p : Int → Int → Bool} {f : D → D → Option D} (hf : ∀ x y d, f x y = some d → ∃ i j, x = .int i ∧ y = .int j ∧ d = .bool (p i j)) : B2 .pl (rI0 fun i j => .bl (p i j)) f := by
  intro H O x y dx dy d Q tr rx ry e q
  obtain ⟨i, j, rfl, rfl, rfl⟩ := hf _ _ _ e
  cases rx.int_inv; cases ry.int_inv
  exact ⟨i, j, rfl, rfl, q H _ (Same.refl H) (.bl _)⟩
def cmpI (p : Int → Int → Bool) : D → D → Option D
  | .int i, .int j => some (.bool (p i j))
  | _, _ => none
theorem cmpI_inv {p : Int → Int → Bool} (x y d : D) (h : cmpI p x y = some d) : ∃ i j, x = .int i ∧ y = .int j ∧ d = .bool (p i j) := by
  cases x <;> cases y <;> simp only [cmpI] at h <;> cases h
  exact ⟨_, _, rfl, rfl, rfl⟩
abbrev ltI := cmpI fun i j => decide (i < j)
abbrev leI := cmpI fun i j => decide (i ≤ j)
abbrev gtI := cmpI fun i j => decide (j < i)
abbrev geI := cmpI fun i j => decide (j ≤ i)
theorem b2_lt : B2 .pl (rI0 fun i j => .bl (decide (i < j))) ltI := b2_cmpI cmpI_inv
theorem b2_le : B2 .pl (rI0 fun i j => .bl (decide (i ≤ j))) leI := b2_cmpI cmpI_inv
theorem b2_gt : B2 .pl (rI0 fun i j => .bl (decide (j < i))) gtI := b2_cmpI cmpI_inv
theorem b2_ge : B2 .pl (rI0 fun i j => .bl (decide (j ≤ i))) geI := b2_cmpI cmpI_inv
theorem de_lt (ha : DE X G M ka a ma) (hb : DE X G M kb b mb) : DE X G M .pl (.Compare a [.Lt] [b] pos) (m2 ltI ma mb) := de_cmp op_lt b2_lt ha hb (nomark _)
theorem de_le (ha : DE X G M ka a ma) (hb : DE X G M kb b mb) : DE X G M .pl (.Compare a [.LtE] [b] pos) (m2 leI ma mb) := de_cmp op_le b2_le ha hb (nomark _)
theorem de_gt (ha : DE X G M ka a ma) (hb : DE X G M kb b mb) : DE X G M .pl (.Compare a [.Gt] [b] pos) (m2 gtI ma mb) := de_cmp op_gt b2_gt ha hb (nomark _)
theorem de_ge (ha : DE X G M ka a ma) (hb : DE X G M kb b mb) : DE X G M .pl (.Compare a [.GtE] [b] pos) (m2 geI ma mb) := de_cmp op_ge b2_ge ha hb (nomark _)

/-! deep data -/
mutual
theorem Rp.dp {K : PySem.W.Frag} {H : Hp} {O : AS} : ∀ {d : D} {v : V}, Rp H O d v → PyData.canLay0 d = true → Dp K H v d
  | _, _, .non, _ => .non
  | _, _, .bl b, _ => .bl b
  | _, _, .int i, _ => .int i
  | _, _, .str x, _ => .str x
  | _, _, .lst _ r q, h => .lst (Rd.seqL r) (RpA.dp q h)
  | _, _, .tup _ r q, h => .tup (Rd.seqT r) (RpA.dp q h)
  | _, _, .dK _ _ _, h => nomatch h
  | _, _, .dT _ _ _, h => nomatch h
theorem RpA.dp {K : PySem.W.Frag} {H : Hp} {O : AS} : ∀ {ds : List D} {vs : List V}, RpA H O ds vs → PyData.canLayAll0 ds = true → DpAll K H vs ds
  | _, _, .nil, _ => .nil
  | _, _, .cons a b, h => .cons (Rp.dp a (Bool.and_eq_true_iff.mp h).1) (RpA.dp b (Bool.and_eq_true_iff.mp h).2)
end
theorem Rc.dp {K : PySem.W.Frag} {H : Hp} {O : AS} {d : D} {v : V} (r : Rc H O d v) (h : PyData.canLay0 d = true) : Dp K H v d := by
  cases r with
  | of r => exact r.dp h
  | rt r =>
    cases r with
    | lst e q => exact .lst (.inl (.inl e)) (q.dp h)
    | dK e q => cases h
    | dT e q => cases h
theorem canLay_of_shaped {d : D} (h : SeqAt.shaped d = true) : PyData.canLay0 d = true := SeqAt.canLay_of_shaped h
/-- == of data; ints and texts need no shape -/
def eqB : D → D → Option Bool
  | .int i, .int j => some (decide (i = j))
  | .str i, .str j => some (decide (i = j))
  | .bool i, .bool j => some (decide (i = j))
  | .none, .none => some true
  | .none, .int _ => some false
  | .int _, .none => some false
  | .none, .str _ => some false
  | .str _, .none => some false
  | .int _, .str _ => some false
  | .str _, .int _ => some false
  | x, y => if SeqAt.shaped x && SeqAt.shaped y then some (PyData.eqv x y) else none
def eqD (x y : D) : Option D := (eqB x y).map .bool
def neD (x y : D) : Option D := (eqB x y).map fun b => .bool !b
def rEqA (K : PySem.W.Frag) : R2 := fun x y H Q => rEq x y H Q ∨ rEqD K x y H Q
def rNeA (K : PySem.W.Frag) : R2 := fun x y H Q => rNe x y H Q ∨ rNeD K x y H Q
theorem eqB_ok {K : PySem.W.Frag} {H : Hp} {O : AS} {x y : V} {dx dy : D} {t : Bool} (rx : Rc H O dx x) (ry : Rc H O dy y) (h : eqB dx dy = some t) :
    (scal x y = true ∧ decide (x = y) = t) ∨ ∃ d e, Dp K H x d ∧ Dp K H y e ∧ SeqAt.shaped d = true ∧ SeqAt.shaped e = true ∧ PyData.eqv d e = t := by
  unfold eqB at h
  split at h
  · cases rx.int_inv; cases ry.int_inv; cases h; exact .inl ⟨rfl, by simp⟩
  · cases rx.str_inv; cases ry.str_inv; cases h; exact .inl ⟨rfl, by simp⟩
  · cases rx.bl_inv; cases ry.bl_inv; cases h; exact .inl ⟨rfl, by simp⟩
  · cases rx.non_inv; cases ry.non_inv; cases h; exact .inl ⟨rfl, by simp⟩
  · cases rx.non_inv; cases ry.int_inv; cases h; exact .inl ⟨rfl, by simp⟩
  · cases rx.int_inv; cases ry.non_inv; cases h; exact .inl ⟨rfl, by simp⟩
  · cases rx.non_inv; cases ry.str_inv; cases h; exact .inl ⟨rfl, by simp⟩
  · cases rx.str_inv; cases ry.non_inv; cases h; exact .inl ⟨rfl, by simp⟩
  · cases rx.int_inv; cases ry.str_inv; cases h; exact .inl ⟨rfl, by simp⟩
  · cases rx.str_inv; cases ry.int_inv; cases h; exact .inl ⟨rfl, by simp⟩
  · split at h
    · rename_i hs
      cases h
      have h1 := (Bool.and_eq_true_iff.mp hs).1
      have h2 := (Bool.and_eq_true_iff.mp hs).2
      exact .inr ⟨_, _, rx.dp (canLay_of_shaped h1), ry.dp (canLay_of_shaped h2), h1, h2, rfl⟩
    · cases h
theorem b2_eq : B2 .pl (rEqA X.K) eqD := by
  intro H O x y dx dy d Q tr rx ry hf q
  unfold eqD at hf
  cases e : eqB dx dy with
  | none => rw [e] at hf; cases hf
  | some t =>
    rw [e] at hf
    cases hf
    rcases eqB_ok (K := X.K) rx ry e with ⟨h1, h2⟩ | ⟨d, e, h1, h2, h3, h4, h5⟩
    · exact .inl ⟨h1, by rw [h2]; exact q H _ (Same.refl H) (.bl _)⟩
    · exact .inr ⟨d, e, h1, h2, h3, h4, by rw [h5]; exact q H _ (Same.refl H) (.bl _)⟩
theorem b2_ne : B2 .pl (rNeA X.K) neD := by
  intro H O x y dx dy d Q tr rx ry hf q
  unfold neD at hf
  cases e : eqB dx dy with
  | none => rw [e] at hf; cases hf
  | some t =>
    rw [e] at hf
    cases hf
    rcases eqB_ok (K := X.K) rx ry e with ⟨h1, h2⟩ | ⟨d, e, h1, h2, h3, h4, h5⟩
    · exact .inl ⟨h1, by rw [h2]; exact q H _ (Same.refl H) (.bl _)⟩
    · exact .inr ⟨d, e, h1, h2, h3, h4, by rw [h5]; exact q H _ (Same.refl H) (.bl _)⟩
theorem de_eq (hu : X.A.units + 64 < cLine) (ha : DE X G M ka a ma) (hb : DE X G M kb b mb) : DE X G M .pl (.Compare a [.Eq] [b] pos) (m2 eqD ma mb) := de_cmp (op_eq.or (op_eqD hu)) b2_eq ha hb (nomark _)
theorem de_ne (hu : X.A.units + 64 < cLine) (ha : DE X G M ka a ma) (hb : DE X G M kb b mb) : DE X G M .pl (.Compare a [.NotEq] [b] pos) (m2 neD ma mb) := de_cmp (op_ne.or (op_neD hu)) b2_ne ha hb (nomark _)
def isN : D → D → Option D
  | .none, .none => some (.bool true)
  | _, .none => some (.bool false)
  | _, _ => none
end
end DL

namespace DL
open PySem PySem.Spec L2
section
variable {X : Cx} {G : Gd} {M : List Md} {k : Kd} {ka kb kc : Kd} {a b c e : Expr} {ma mb mc m : Env' → Res D} {pos : Pos}

/-! ### is None -/
def isND (d : D) : Bool := match d with | .none => true | _ => false
theorem V_non_iff {H : Hp} {O : AS} {d : D} {v : V} (r : Rc H O d v) : decide (v = .non) = isND d := by
  cases r with
  | of r => cases r <;> simp [isND]
  | rt r => cases r <;> simp [isND]
theorem b2_isN : B2 .pl (fun x y H Q => y = .non ∧ Q (.bl (decide (x = .non))) H) (fun x y => match y with | .none => some (.bool (isND x)) | _ => none) := by
  intro H O x y dx dy d Q tr rx ry hf q
  cases dy <;> simp only at hf <;> cases hf
  exact ⟨ry.non_inv, by rw [V_non_iff rx]; exact q H _ (Same.refl H) (.bl _)⟩
theorem b2_notN : B2 .pl (fun x y H Q => y = .non ∧ Q (.bl (!decide (x = .non))) H) (fun x y => match y with | .none => some (.bool (!isND x)) | _ => none) := by
  intro H O x y dx dy d Q tr rx ry hf q
  cases dy <;> simp only at hf <;> cases hf
  exact ⟨ry.non_inv, by rw [V_non_iff rx]; exact q H _ (Same.refl H) (.bl _)⟩
def mIsN (m : Env' → Res D) : Env' → Res D := fun env => (m env).bind fun x => .ok (.bool (isND x))
def mNotN (m : Env' → Res D) : Env' → Res D := fun env => (m env).bind fun x => .ok (.bool (!isND x))
theorem de_isN {j pos'} (ha : DE X G M ka a ma) : DE X G M .pl (.Compare a [.Is] [.Constant .none j pos'] pos) (mIsN ma) := de_cmp op_isN b2_isN ha de_non (nomark _)
theorem de_notN {j pos'} (ha : DE X G M ka a ma) : DE X G M .pl (.Compare a [.IsNot] [.Constant .none j pos'] pos) (mNotN ma) := de_cmp op_notN b2_notN ha de_non (nomark _)

/-! ### in: lists, tuples, texts -/
/-- the subtext at its first places -/
def inS (x y : Str) : Bool := !(Builtin.Str.occurrences y x 0 y.length 1).isEmpty
def inB : D → D → Option Bool
  | d, .list ds => if SeqAt.shaped d && SeqAt.shaped (.list ds) then some (ds.any fun z => PyData.eqv z d) else none
  | .str x, .str y => some (inS x y)
  | _, _ => none
def inD (x y : D) : Option D := (inB x y).map .bool
def notInD (x y : D) : Option D := (inB x y).map fun b => .bool !b
theorem inB_ok {K : PySem.W.Frag} {H : Hp} {O : AS} {x y : V} {dx dy : D} {t : Bool} (rx : Rc H O dx x) (ry : Rc H O dy y) (h : inB dx dy = some t) :
    (∃ d ds, Dp K H x d ∧ Dp K H y (.list ds) ∧ SeqAt.shaped d = true ∧ SeqAt.shaped (.list ds) = true ∧ (ds.any fun z => PyData.eqv z d) = t) ∨ ∃ i j, x = .str i ∧ y = .str j ∧ inS i j = t := by
  unfold inB at h
  split at h
  · split at h
    · rename_i hs
      cases h
      have h1 := (Bool.and_eq_true_iff.mp hs).1
      have h2 := (Bool.and_eq_true_iff.mp hs).2
      exact .inl ⟨_, _, rx.dp (canLay_of_shaped h1), ry.dp (canLay_of_shaped h2), h1, h2, rfl⟩
    · cases h
  · cases h
    exact .inr ⟨_, _, rx.str_inv, ry.str_inv, rfl⟩
  · cases h
theorem b2_in : B2 .pl (fun x y H Q => rInD X.K x y H Q ∨ ∃ i j, x = .str i ∧ y = .str j ∧ Q (.bl (!(Builtin.Str.occurrences j i 0 j.length 1).isEmpty)) H) inD := by
  intro H O x y dx dy d Q tr rx ry hf q
  unfold inD at hf
  cases e : inB dx dy with
  | none => rw [e] at hf; cases hf
  | some t =>
    rw [e] at hf
    cases hf
    rcases inB_ok (K := X.K) rx ry e with ⟨d, ds, h1, h2, h3, h4, h5⟩ | ⟨i, j, h1, h2, h3⟩
    · exact .inl ⟨d, ds, h1, h2, h3, h4, by rw [h5]; exact q H _ (Same.refl H) (.bl _)⟩
    · exact .inr ⟨i, j, h1, h2, by unfold inS at h3; rw [h3]; exact q H _ (Same.refl H) (.bl _)⟩
theorem b2_notIn : B2 .pl (fun x y H Q => rNotInD X.K x y H Q ∨ ∃ i j, x = .str i ∧ y = .str j ∧ Q (.bl (!(!(Builtin.Str.occurrences j i 0 j.length 1).isEmpty))) H) notInD := by
  intro H O x y dx dy d Q tr rx ry hf q
  unfold notInD at hf
  cases e : inB dx dy with
  | none => rw [e] at hf; cases hf
  | some t =>
    rw [e] at hf
    cases hf
    rcases inB_ok (K := X.K) rx ry e with ⟨d, ds, h1, h2, h3, h4, h5⟩ | ⟨i, j, h1, h2, h3⟩
    · exact .inl ⟨d, ds, h1, h2, h3, h4, by rw [h5]; exact q H _ (Same.refl H) (.bl _)⟩
    · exact .inr ⟨i, j, h1, h2, by unfold inS at h3; rw [h3]; exact q H _ (Same.refl H) (.bl _)⟩
theorem de_in (hu : X.A.units + 65 < cLine) (ha : DE X G M ka a ma) (hb : DE X G M kb b mb) (hm : behindInMarks .In b = false := by rfl) : DE X G M .pl (.Compare a [.In] [b] pos) (m2 inD ma mb) := de_cmp ((op_inD hu).or op_in_str) b2_in ha hb hm
theorem de_notIn (hu : X.A.units + 65 < cLine) (ha : DE X G M ka a ma) (hb : DE X G M kb b mb) (hm : behindInMarks .NotIn b = false := by rfl) : DE X G M .pl (.Compare a [.NotIn] [b] pos) (m2 notInD ma mb) := de_cmp ((op_notInD hu).or op_notin_str) b2_notIn ha hb hm

/-! ### subscripts, slices -/
def ixD : D → D → Option D
  | .list ds, .int i => atI ds i
  | .tuple ds, .int i => atI ds i
  | .str x, .int i => if x.length ≤ sizeLine then (atI x.cps.toList i).map fun c => .str ⟨#[c]⟩ else none
  | _, _ => none
theorem RpA.atI {H : Hp} {O : AS} {ds : List D} {vs : List V} {i : Int} {d : D} (r : RpA H O ds vs) (h : L2.atI ds i = some d) : ∃ v, L2.atI vs i = some v ∧ Rp H O d v := by
  unfold L2.atI at h ⊢
  rw [r.length] at h
  cases e : ixN vs.length i with
  | none => rw [e] at h; cases h
  | some j =>
    rw [e] at h
    exact r.get h
theorem b2_ix : B2 .pl (rIx X.K) ixD := by
  intro H O x y dx dy d Q tr rx ry hf q
  unfold ixD at hf
  split at hf
  · obtain ⟨p, xs, rfl, e1, r1⟩ := rx.list_inv
    cases ry.int_inv
    obtain ⟨v, hv, rv⟩ := r1.atI hf
    exact .inl ⟨p, xs, _, v, rfl, rfl, Rd.seqL e1, hv, q H _ (Same.refl H) rv⟩
  · obtain ⟨p, xs, rfl, e1, r1⟩ := rx.tuple_inv
    cases ry.int_inv
    obtain ⟨v, hv, rv⟩ := r1.atI hf
    exact .inr (.inl ⟨p, xs, _, v, rfl, rfl, Rd.seqT e1, hv, q H _ (Same.refl H) rv⟩)
  · cases rx.str_inv; cases ry.int_inv
    split at hf
    · rename_i x i hz
      cases hc : atI x.cps.toList i with
      | none => rw [hc] at hf; cases hf
      | some c =>
        rw [hc] at hf; cases hf
        exact .inr (.inr ⟨_, _, c, rfl, rfl, hz, hc, q H _ (Same.refl H) (.str _)⟩)
    · cases hf
  · cases hf
theorem de_ix (ha : DE X G M ka a ma) (hb : DE X G M kb b mb) (hs : PlainIx b) : DE X G M .pl (.Subscript a b pos) (m2 ixD ma mb) := pe_imp (pe_ix ix_seq ha.co hb.co hs) (tOp_ok b2_ix)

/-- a part of a slice -/
def tO (G : Gd) (M : List Md) (m : Env' → Res (Option Int)) : TO := fun σ H Q => ∃ (g : Gr G.ex) (O : AS) (env : Env'), SR g.H0 g.O0 M O env σ H ∧ match m env with
  | .ok o => ∀ H', Same H H' → Q o H'
  | .exc c d => XW G O σ H c d
  | .err => False
def DO (X : Cx) (G : Gd) (M : List Md) (e : Option Expr) (m : Env' → Res (Option Int)) : Prop := PO X e (tO G M m)
theorem po_imp {X : Cx} {e : Option Expr} {t t' : TO} (h : PO X e t) (i : ∀ σ H Q, t' σ H Q → t σ H Q) : PO X e t' := ⟨fun pins s σ H Q I q => h.run pins s σ H Q I (i σ H Q q)⟩
def mPart (m : Env' → Res D) : Env' → Res (Option Int) := fun env => (m env).bind fun d => match d with
  | .int i => .ok (some i)
  | _ => .err
def mNoPart : Env' → Res (Option Int) := fun _ => .ok none
theorem do_none : DO X G M none mNoPart := po_imp po_none fun σ H Q ⟨g, O, env, sr, q⟩ => q H (Same.refl H)
theorem do_some (ha : DE X G M ka a ma) : DO X G M (some a) (mPart ma) := po_imp (po_some ha.co) fun σ H Q ⟨g, O, env, sr, q⟩ => by
  refine ⟨g, O, env, sr, ?_⟩
  unfold mPart at q
  cases h : ma env with
  | err => rw [h] at q; exact q
  | exc c d => rw [h] at q; exact q
  | ok d =>
    rw [h, Res.bind_ok] at q
    intro H' v s r
    cases d <;> simp only at q
    case int i => exact ⟨i, Rc.int_inv r, q H' s⟩
/-- the items lo:hi -/
def cut {α : Type} (xs : List α) (lo hi : Option Int) : List α := (xs.drop (HT.sIx xs.length 0 lo)).take (HT.sIx xs.length xs.length hi - HT.sIx xs.length 0 lo)
def slD : D → Option Int → Option Int → Option D
  | .list ds, lo, hi => some (.list (cut ds lo hi))
  | .tuple ds, lo, hi => some (.tuple (cut ds lo hi))
  | .str x, lo, hi => if x.length ≤ sizeLine then some (.str ⟨(cut x.cps.toList lo hi).toArray⟩) else none
  | _, _, _ => none
theorem RpA.cut {H : Hp} {O : AS} {ds : List D} {vs : List V} (r : RpA H O ds vs) (lo hi : Option Int) : RpA H O (DL.cut ds lo hi) (cutV vs lo hi) := by
  unfold DL.cut cutV
  rw [r.length]
  exact (r.drop _).take _
def rSlAll (K : PySem.W.Frag) : V → Option Int → Option Int → Hp → VK → Prop := fun x lo hi H Q => rSlL K x lo hi H Q ∨ rSlA K x lo hi H Q ∨ rSlS x lo hi H Q
theorem sl_all : SlR X (rSlAll X.K) := sl_list.or (sl_tupA.or sl_str)
def m3 (f : D → Option Int → Option Int → Option D) (ma : Env' → Res D) (ml mh : Env' → Res (Option Int)) : Env' → Res D := fun env => (ma env).bind fun x => (ml env).bind fun l => (mh env).bind fun h => Res.of (f x l h)
def S3 (k : Kd) (r : V → Option Int → Option Int → Hp → VK → Prop) (f : D → Option Int → Option Int → Option D) : Prop := ∀ {H : Hp} {O : AS} {x : V} {dx d : D} {lo hi : Option Int} {Q : VK}, Trk H O → Rc H O dx x → f dx lo hi = some d →
  (∀ H' v, Same H H' → RK k H O H' d v → Q v H') → r x lo hi H Q
theorem s3_all : S3 .pl (rSlAll X.K) slD := by
  intro H O x dx d lo hi Q tr rx hf q
  unfold slD at hf
  split at hf
  · cases hf
    obtain ⟨p, xs, rfl, e1, r1⟩ := rx.list_inv
    exact .inl ⟨p, xs, rfl, Rd.seqL e1, fun l hl => q _ _ (same_new hl) (pl_list tr hl (r1.cut lo hi))⟩
  · cases hf
    obtain ⟨p, xs, rfl, e1, r1⟩ := rx.tuple_inv
    refine .inr (.inl ⟨p, xs, rfl, Rd.seqT e1, fun hw => ?_, fun _ l hl => q _ _ (same_new hl) (pl_tup tr hl (r1.cut lo hi))⟩)
    refine q H _ (Same.refl H) ?_
    have e : DL.cut ‹List D› lo hi = ‹List D› := by
      unfold DL.cut
      rw [r1.length, hw.1, hw.2]
      simp [← r1.length]
    cases rx with
    | of r => show Rp H O (.tuple (DL.cut _ lo hi)) _; rw [e]; exact r
    | rt r => cases r
  · split at hf
    · cases hf
      cases rx.str_inv
      rename_i hz
      refine .inr (.inr ⟨_, rfl, hz, ?_⟩)
      have := q H _ (Same.refl H) (.str _)
      unfold cutS
      unfold DL.cut at this
      simpa [Str.length] using this
    · cases hf
  · cases hf
/-- a slice of a list, owned -/
theorem s3_list : S3 .fr (rSlL X.K) (fun x lo hi => match x with | .list ds => some (.list (cut ds lo hi)) | _ => none) := by
  intro H O x dx d lo hi Q tr rx hf q
  simp only at hf
  split at hf
  · cases hf
    obtain ⟨p, xs, rfl, e1, r1⟩ := rx.list_inv
    exact ⟨p, xs, rfl, Rd.seqL e1, fun l hl => q _ _ (same_new hl) (fr_list tr hl (r1.cut lo hi))⟩
  · cases hf
theorem de_slG {r : V → Option Int → Option Int → Hp → VK → Prop} {f : D → Option Int → Option Int → Option D} {lo hi : Option Expr} {p2 : Pos} {ml mh : Env' → Res (Option Int)} (hr : SlR X r) (hS : S3 k r f) (ha : DE X G M ka a ma) (hl : DO X G M lo ml) (hh : DO X G M hi mh) :
    DE X G M k (.Subscript a (.Slice lo hi none p2) pos) (m3 f ma ml mh) := pe_imp (pe_slice hr ha.co hl hh) fun σ H Q ⟨g, O, env, sr, q⟩ => by
  refine ⟨g, O, env, sr, ?_⟩
  unfold m3 at q
  cases h1 : ma env with
  | err => rw [h1] at q; exact q
  | exc c d => rw [h1] at q; exact q
  | ok x =>
    rw [h1, Res.bind_ok] at q
    intro H1 v1 s1 r1
    refine ⟨g, O, env, sr.grow s1, ?_⟩
    cases h2 : ml env with
    | err => rw [h2] at q; exact q
    | exc c d => rw [h2] at q; exact XW.grow s1 q
    | ok l =>
      rw [h2, Res.bind_ok] at q
      intro H2 s2
      refine ⟨g, O, env, sr.grow (s1.trans s2), ?_⟩
      cases h3 : mh env with
      | err => rw [h3] at q; exact q
      | exc c d => rw [h3] at q; exact XW.grow (s1.trans s2) q
      | ok h =>
        rw [h3, Res.bind_ok] at q
        intro H3 s3
        have s := (s1.trans s2).trans s3
        cases hf : f x l h with
        | none => rw [hf] at q; exact q.elim
        | some d => rw [hf] at q; exact hS (Trk.grow sr.tr s) (Rc.same (s2.trans s3) r1) hf fun H' v s' r => q H' v (s.trans s') (RK.back s r)
theorem de_sl {lo hi : Option Expr} {p2 : Pos} {ml mh : Env' → Res (Option Int)} (ha : DE X G M ka a ma) (hl : DO X G M lo ml) (hh : DO X G M hi mh) : DE X G M .pl (.Subscript a (.Slice lo hi none p2) pos) (m3 slD ma ml mh) := de_slG sl_all s3_all ha hl hh

/-! ### tests -/
def tT (G : Gd) (M : List Md) (m : Env' → Res Bool) : TT := fun σ H Q => ∃ (g : Gr G.ex) (O : AS) (env : Env'), SR g.H0 g.O0 M O env σ H ∧ match m env with
  | .ok b => ∀ H', Same H H' → Q b H'
  | .exc c d => XW G O σ H c d
  | .err => False
def DT (X : Cx) (G : Gd) (M : List Md) (e : Expr) (m : Env' → Res Bool) : Prop := PT X e (tT G M m)
def DW (X : Cx) (G : Gd) (M : List Md) (e : Expr) (m : Env' → Res Bool) : Prop := PW X e (tT G M m)
theorem pt_imp {X : Cx} {e : Expr} {t t' : TT} (h : PT X e t) (i : ∀ σ H Q, t' σ H Q → t σ H Q) : PT X e t' := ⟨fun pins s σ H Q I q => h.run pins s σ H Q I (i σ H Q q)⟩
theorem pw_imp {X : Cx} {e : Expr} {t t' : TT} (h : PW X e t) (i : ∀ σ H Q, t' σ H Q → t σ H Q) : PW X e t' := ⟨fun wh pins s σ H Q I q => h.run wh pins s σ H Q I (i σ H Q q)⟩
def asB : D → Res Bool
  | .bool b => .ok b
  | _ => .err
def mB (m : Env' → Res D) : Env' → Res Bool := fun env => (m env).bind asB
theorem tB_ok (σ : L2.St) (H : Hp) (Q : Bool → Hp → Prop) (h : tT G M (mB ma) σ H Q) : tTest (tE G M .co ma) σ H Q := by
  obtain ⟨g, O, env, sr, q⟩ := h
  refine ⟨g, O, env, sr, ?_⟩
  unfold mB at q
  cases h : ma env with
  | err => rw [h] at q; exact q
  | exc c d => rw [h] at q; exact q
  | ok d =>
    rw [h, Res.bind_ok] at q
    intro H' v s r
    cases d <;> simp only [asB] at q
    case bool b => exact ⟨b, Rc.bl_inv r, q H' s⟩
theorem dt_val (ha : DE X G M ka e ma) (he : ∀ whole, isTrue e X.env whole = (do let v ← whole; standAt e.pos; holding [v] (truthy v)) := by intro _; rfl) : DT X G M e (mB ma) := pt_imp (pt_val ha.co he) tB_ok
/-- a comparison as a test -/
theorem dt_cmp {op : CmpOp} {r : R2} {f : D → D → Option D} (ho : OpR X (compareOp op) r) (hB : B2 .pl r f) (ha : DE X G M ka a ma) (hb : DE X G M kb b mb) (hm : behindInMarks op b = false) : DT X G M (.Compare a [op] [b] pos) (mB (m2 f ma mb)) :=
  pt_imp (pt_cmpR ho ha.co hb.co hm) fun σ H Q h => by
    obtain ⟨g, O, env, sr, q⟩ := h
    refine tOp_ok (G := G) (M := M) (k := .pl) hB σ H _ ⟨g, O, env, sr, ?_⟩
    unfold mB at q
    cases h : m2 f ma mb env with
    | err => rw [h] at q; exact q
    | exc c d => rw [h] at q; exact q
    | ok d =>
      rw [h, Res.bind_ok] at q
      intro H' v s r
      cases d <;> simp only [asB] at q
      case bool b => exact ⟨b, Rc.bl_inv (.of r), q H' s⟩
theorem dt_lt (ha : DE X G M ka a ma) (hb : DE X G M kb b mb) : DT X G M (.Compare a [.Lt] [b] pos) (mB (m2 ltI ma mb)) := dt_cmp op_lt b2_lt ha hb (nomark _)
theorem dt_le (ha : DE X G M ka a ma) (hb : DE X G M kb b mb) : DT X G M (.Compare a [.LtE] [b] pos) (mB (m2 leI ma mb)) := dt_cmp op_le b2_le ha hb (nomark _)
theorem dt_gt (ha : DE X G M ka a ma) (hb : DE X G M kb b mb) : DT X G M (.Compare a [.Gt] [b] pos) (mB (m2 gtI ma mb)) := dt_cmp op_gt b2_gt ha hb (nomark _)
theorem dt_ge (ha : DE X G M ka a ma) (hb : DE X G M kb b mb) : DT X G M (.Compare a [.GtE] [b] pos) (mB (m2 geI ma mb)) := dt_cmp op_ge b2_ge ha hb (nomark _)
theorem dt_eq (hu : X.A.units + 64 < cLine) (ha : DE X G M ka a ma) (hb : DE X G M kb b mb) : DT X G M (.Compare a [.Eq] [b] pos) (mB (m2 eqD ma mb)) := dt_cmp (op_eq.or (op_eqD hu)) b2_eq ha hb (nomark _)
theorem dt_ne (hu : X.A.units + 64 < cLine) (ha : DE X G M ka a ma) (hb : DE X G M kb b mb) : DT X G M (.Compare a [.NotEq] [b] pos) (mB (m2 neD ma mb)) := dt_cmp (op_ne.or (op_neD hu)) b2_ne ha hb (nomark _)
theorem dt_in (hu : X.A.units + 65 < cLine) (ha : DE X G M ka a ma) (hb : DE X G M kb b mb) (hm : behindInMarks .In b = false := by rfl) : DT X G M (.Compare a [.In] [b] pos) (mB (m2 inD ma mb)) := dt_cmp ((op_inD hu).or op_in_str) b2_in ha hb hm
theorem dt_notIn (hu : X.A.units + 65 < cLine) (ha : DE X G M ka a ma) (hb : DE X G M kb b mb) (hm : behindInMarks .NotIn b = false := by rfl) : DT X G M (.Compare a [.NotIn] [b] pos) (mB (m2 notInD ma mb)) := dt_cmp ((op_notInD hu).or op_notin_str) b2_notIn ha hb hm
def fIsN : D → D → Option D := fun x y => match y with | .none => some (.bool (isND x)) | _ => none
def fNotN : D → D → Option D := fun x y => match y with | .none => some (.bool (!isND x)) | _ => none
theorem dt_isN {j pos'} (ha : DE X G M ka a ma) : DT X G M (.Compare a [.Is] [.Constant .none j pos'] pos) (mB (mIsN ma)) := dt_cmp (f := fIsN) op_isN b2_isN ha de_non (nomark _)
theorem dt_notN {j pos'} (ha : DE X G M ka a ma) : DT X G M (.Compare a [.IsNot] [.Constant .none j pos'] pos) (mB (mNotN ma)) := dt_cmp (f := fNotN) op_notN b2_notN ha de_non (nomark _)
def bAnd (ma mb : Env' → Res Bool) : Env' → Res Bool := fun env => (ma env).bind fun b => if b = true then mb env else .ok false
def bOr (ma mb : Env' → Res Bool) : Env' → Res Bool := fun env => (ma env).bind fun b => if b = true then .ok true else mb env
def bNot (ma : Env' → Res Bool) : Env' → Res Bool := fun env => (ma env).bind fun b => .ok (!b)
variable {na nb nc : Env' → Res Bool} {rest : List Expr}
theorem tIte_ok {α : Type} {σ : L2.St} {H : Hp} {g : Gr G.ex} {O : AS} {env : Env'} {Q : Bool → Hp → Prop} (sr : SR g.H0 g.O0 M O env σ H) (f : Bool → Env' → Res Bool) (q : match ((na env).bind fun b => f b env) with
    | .ok b => ∀ H', Same H H' → Q b H' | .exc c d => XW G O σ H c d | .err => False) :
    tT G M na σ H fun b H1 => tT G M (f b) σ H1 fun b2 H2 => Q b2 H2 := by
  refine ⟨g, O, env, sr, ?_⟩
  cases h : na env with
  | err => rw [h] at q; exact q
  | exc c d => rw [h] at q; exact q
  | ok b =>
    rw [h, Res.bind_ok] at q
    intro H1 s1
    refine ⟨g, O, env, sr.grow s1, ?_⟩
    cases h2 : f b env with
    | err => rw [h2] at q; exact q
    | exc c d => rw [h2] at q; exact XW.grow s1 q
    | ok b2 => rw [h2] at q; exact fun H2 s2 => q H2 (s1.trans s2)
theorem tT_ok {b : Bool} {σ : L2.St} {H : Hp} {Q : Bool → Hp → Prop} (h : tT G M (fun _ => .ok b) σ H Q) : Q b H := by
  obtain ⟨g, O, env, sr, q⟩ := h
  exact q H (Same.refl H)
theorem dw_and1 (ha : DT X G M a na) : DW X G M (.BoolOp .And [a] pos) na := pw_and1 ha
theorem dw_or1 (ha : DT X G M a na) : DW X G M (.BoolOp .Or [a] pos) na := pw_or1 ha
theorem dw_and (ha : DT X G M a na) (hb : DW X G M (.BoolOp .And (b :: rest) pos) nb) : DW X G M (.BoolOp .And (a :: b :: rest) pos) (bAnd na nb) := pw_imp (pw_and ha hb) fun σ H Q ⟨g, O, env, sr, q⟩ => by
  have z := tIte_ok (α := Unit) sr (fun b env => if b = true then nb env else .ok false) q
  obtain ⟨g1, O1, env1, sr1, q1⟩ := z
  refine ⟨g1, O1, env1, sr1, ?_⟩
  cases h : na env1 with
  | err => rw [h] at q1; exact q1
  | exc c d => rw [h] at q1; exact q1
  | ok b =>
    rw [h] at q1
    intro H1 s1
    have q2 := q1 H1 s1
    cases b with
    | true => simpa using q2
    | false => simpa using tT_ok q2
theorem dw_or (ha : DT X G M a na) (hb : DW X G M (.BoolOp .Or (b :: rest) pos) nb) : DW X G M (.BoolOp .Or (a :: b :: rest) pos) (bOr na nb) := pw_imp (pw_or ha hb) fun σ H Q ⟨g, O, env, sr, q⟩ => by
  have z := tIte_ok (α := Unit) sr (fun b env => if b = true then .ok true else nb env) q
  obtain ⟨g1, O1, env1, sr1, q1⟩ := z
  refine ⟨g1, O1, env1, sr1, ?_⟩
  cases h : na env1 with
  | err => rw [h] at q1; exact q1
  | exc c d => rw [h] at q1; exact q1
  | ok b =>
    rw [h] at q1
    intro H1 s1
    have q2 := q1 H1 s1
    cases b with
    | true => simpa using tT_ok q2
    | false => simpa using q2
theorem dt_w (h : DW X G M e na) : DT X G M e na := PW.pt h
theorem dt_not (ha : DT X G M a na) : DT X G M (.UnaryOp .Not a pos) (bNot na) := pt_imp (pt_not ha) fun σ H Q ⟨g, O, env, sr, q⟩ => by
  refine ⟨g, O, env, sr, ?_⟩
  unfold bNot at q
  cases h : na env with
  | err => rw [h] at q; exact q
  | exc c d => rw [h] at q; exact q
  | ok b => rw [h, Res.bind_ok] at q; exact q
end
end DL

namespace DL
open PySem PySem.Spec L2

inductive RcA (H : Hp) (O : AS) : List D → List V → Prop
  | nil : RcA H O [] []
  | cons {d : D} {v : V} {ds : List D} {vs : List V} : Rc H O d v → RcA H O ds vs → RcA H O (d :: ds) (v :: vs)
theorem RcA.of {H : Hp} {O : AS} : ∀ {ds : List D} {vs : List V}, RpA H O ds vs → RcA H O ds vs
  | _, _, .nil => .nil
  | _, _, .cons a b => .cons (.of a) (RcA.of b)
section
variable {X : Cx} {G : Gd} {M : List Md} {k : Kd} {ka kb kc : Kd} {a b c e : Expr} {es : List Expr} {ma mb mc m : Env' → Res D} {pos : Pos}
variable {na nb nc : Env' → Res Bool} {rest : List Expr}

/-! ### a if t else b; and, or, not as values -/
def mIf (nc : Env' → Res Bool) (ma mb : Env' → Res D) : Env' → Res D := fun env => (nc env).bind fun b => if b = true then ma env else mb env
theorem de_if {c : Expr} (hc : DT X G M c nc) (ha : DE X G M .pl a ma) (hb : DE X G M .pl b mb) : DE X G M .pl (.IfExp c a b pos) (mIf nc ma mb) := pe_imp (pe_ifExp hc ha hb) fun σ H Q ⟨g, O, env, sr, q⟩ => by
  refine ⟨g, O, env, sr, ?_⟩
  unfold mIf at q
  cases h : nc env with
  | err => rw [h] at q; exact q
  | exc c d => rw [h] at q; exact q
  | ok b =>
    rw [h, Res.bind_ok] at q
    intro H1 s1
    cases b with
    | true =>
      rw [if_pos rfl] at q ⊢
      refine ⟨g, O, env, sr.grow s1, ?_⟩
      cases h2 : ma env with
      | err => rw [h2] at q; exact q
      | exc c d => rw [h2] at q; exact XW.grow s1 q
      | ok d => rw [h2] at q; exact fun H' v s r => q H' v (s1.trans s) r
    | false =>
      rw [if_neg Bool.false_ne_true] at q ⊢
      refine ⟨g, O, env, sr.grow s1, ?_⟩
      cases h2 : mb env with
      | err => rw [h2] at q; exact q
      | exc c d => rw [h2] at q; exact XW.grow s1 q
      | ok d => rw [h2] at q; exact fun H' v s r => q H' v (s1.trans s) r
def mAndV (ma mb : Env' → Res D) : Env' → Res D := fun env => (ma env).bind fun d => (asB d).bind fun b => if b = true then mb env else .ok (.bool false)
def mOrV (ma mb : Env' → Res D) : Env' → Res D := fun env => (ma env).bind fun d => (asB d).bind fun b => if b = true then .ok (.bool true) else mb env
def mNotV (ma : Env' → Res D) : Env' → Res D := fun env => (ma env).bind fun d => (asB d).bind fun b => .ok (.bool !b)
theorem de_one {op} (ha : DE X G M k a ma) : DE X G M k (.BoolOp op [a] pos) ma := pe_one ha
theorem de_and (ha : DE X G M .pl a ma) (hb : DE X G M .pl (.BoolOp .And (b :: rest) pos) mb) : DE X G M .pl (.BoolOp .And (a :: b :: rest) pos) (mAndV ma mb) := pe_imp (pe_and ha hb) fun σ H Q ⟨g, O, env, sr, q⟩ => by
  refine ⟨g, O, env, sr, ?_⟩
  unfold mAndV at q
  cases h : ma env with
  | err => rw [h] at q; exact q
  | exc c d => rw [h] at q; exact q
  | ok d =>
    rw [h, Res.bind_ok] at q
    intro H1 v1 s1 r1
    cases d <;> simp only [asB, Res.bind_err] at q
    case bool b =>
      rw [Res.bind_ok] at q
      refine ⟨b, Rc.bl_inv (.of r1), ?_⟩
      cases b with
      | false =>
        rw [if_neg Bool.false_ne_true] at q ⊢
        exact q H1 _ s1 (.bl _)
      | true =>
        rw [if_pos rfl] at q ⊢
        refine ⟨g, O, env, sr.grow s1, ?_⟩
        cases h2 : mb env with
        | err => rw [h2] at q; exact q
        | exc c d => rw [h2] at q; exact XW.grow s1 q
        | ok d => rw [h2] at q; exact fun H' v s r => q H' v (s1.trans s) r
theorem de_or (ha : DE X G M .pl a ma) (hb : DE X G M .pl (.BoolOp .Or (b :: rest) pos) mb) : DE X G M .pl (.BoolOp .Or (a :: b :: rest) pos) (mOrV ma mb) := pe_imp (pe_or ha hb) fun σ H Q ⟨g, O, env, sr, q⟩ => by
  refine ⟨g, O, env, sr, ?_⟩
  unfold mOrV at q
  cases h : ma env with
  | err => rw [h] at q; exact q
  | exc c d => rw [h] at q; exact q
  | ok d =>
    rw [h, Res.bind_ok] at q
    intro H1 v1 s1 r1
    cases d <;> simp only [asB, Res.bind_err] at q
    case bool b =>
      rw [Res.bind_ok] at q
      refine ⟨b, Rc.bl_inv (.of r1), ?_⟩
      cases b with
      | true =>
        rw [if_pos rfl] at q ⊢
        exact q H1 _ s1 (.bl _)
      | false =>
        rw [if_neg Bool.false_ne_true] at q ⊢
        refine ⟨g, O, env, sr.grow s1, ?_⟩
        cases h2 : mb env with
        | err => rw [h2] at q; exact q
        | exc c d => rw [h2] at q; exact XW.grow s1 q
        | ok d => rw [h2] at q; exact fun H' v s r => q H' v (s1.trans s) r
theorem de_not (ha : DE X G M k a ma) : DE X G M .pl (.UnaryOp .Not a pos) (mNotV ma) := pe_imp (pe_not ha.co) fun σ H Q ⟨g, O, env, sr, q⟩ => by
  refine ⟨g, O, env, sr, ?_⟩
  unfold mNotV at q
  cases h : ma env with
  | err => rw [h] at q; exact q
  | exc c d => rw [h] at q; exact q
  | ok d =>
    rw [h, Res.bind_ok] at q
    intro H1 v1 s1 r1
    cases d <;> simp only [asB, Res.bind_err] at q
    case bool b =>
      rw [Res.bind_ok] at q
      exact ⟨b, Rc.bl_inv r1, q H1 _ s1 (.bl _)⟩

/-! ### arguments -/
def RAk (k : Kd) (H : Hp) (O : AS) (ds : List D) (vs : List V) : Prop := match k with
  | .pl => RpA H O ds vs
  | _ => RcA H O ds vs
def RA1 (k : Kd) (H : Hp) (O : AS) (d : D) (v : V) : Prop := match k with
  | .pl => Rp H O d v
  | _ => Rc H O d v
theorem RcA.same {H H' : Hp} {O : AS} (s : Same H H') : ∀ {ds : List D} {vs : List V}, RcA H O ds vs → RcA H' O ds vs
  | _, _, .nil => .nil
  | _, _, .cons a b => .cons (a.same s) (RcA.same s b)
theorem RAk.cons {H H' : Hp} {O : AS} {d : D} {v : V} {ds : List D} {vs : List V} (s : Same H H') (r : RA1 k H O d v) (t : RAk k H' O ds vs) : RAk k H' O (d :: ds) (v :: vs) := by
  cases k with
  | pl => exact .cons (Rp.mono (Sub.same s O) r) t
  | co => exact .cons (Rc.same s r) t
  | fr => exact .cons (Rc.same s r) t
  | lf => exact .cons (Rc.same s r) t
theorem RcA.appendOf {H : Hp} {O : AS} : ∀ {es ds : List D} {ws vs : List V}, RpA H O es ws → RcA H O ds vs → RcA H O (es ++ ds) (ws ++ vs)
  | _, _, _, _, .nil, t => t
  | _, _, _, _, .cons a b, t => .cons (.of a) (RcA.appendOf b t)
theorem RAk.append {H H' : Hp} {O : AS} {es ds : List D} {ws vs : List V} (s : Same H H') (r : RpA H O es ws) (t : RAk k H' O ds vs) : RAk k H' O (es ++ ds) (ws ++ vs) := by
  cases k with
  | pl => exact (r.mono (Sub.same s O)).append t
  | co => exact RcA.appendOf (r.mono (Sub.same s O)) t
  | fr => exact RcA.appendOf (r.mono (Sub.same s O)) t
  | lf => exact RcA.appendOf (r.mono (Sub.same s O)) t
def tAs (G : Gd) (M : List Md) (k : Kd) (m : Env' → Res (List D)) : TA := fun σ H Q => ∃ (g : Gr G.ex) (O : AS) (env : Env'), SR g.H0 g.O0 M O env σ H ∧ match m env with
  | .ok ds => ∀ H' vs, Same H H' → RAk k H' O ds vs → Q vs H'
  | .exc c d => XW G O σ H c d
  | .err => False
def DA (X : Cx) (G : Gd) (M : List Md) (k : Kd) (es : List Expr) (m : Env' → Res (List D)) : Prop := PA X es (tAs G M k m)
theorem pa_imp {X : Cx} {e : List Expr} {t t' : TA} (h : PA X e t) (i : ∀ σ H Q, t' σ H Q → t σ H Q) : PA X e t' := ⟨fun pos pins s σ H Q I q => h.run pos pins s σ H Q I (i σ H Q q)⟩
def aNil : Env' → Res (List D) := fun _ => .ok []
def aCons (m : Env' → Res D) (ms : Env' → Res (List D)) : Env' → Res (List D) := fun env => (m env).bind fun d => (ms env).bind fun ds => .ok (d :: ds)
variable {ms : Env' → Res (List D)}
theorem da_nil : DA X G M k [] aNil := pa_imp pa_nil fun σ H Q ⟨g, O, env, sr, q⟩ => q H [] (Same.refl H) (by cases k <;> constructor)
theorem da_consG (ha : DE X G M k e m) (hk : ∀ H O H' d v, Trk H O → RK k H O H' d v → RA1 kb H' O d v) (hr : DA X G M kb es ms) (hs : starEach (e :: es) X.env = (false, eval e X.env) :: starEach es X.env) : DA X G M kb (e :: es) (aCons m ms) :=
  pa_imp (pa_cons ha hr hs) fun σ H Q ⟨g, O, env, sr, q⟩ => by
    refine ⟨g, O, env, sr, ?_⟩
    unfold aCons at q
    cases h : m env with
    | err => rw [h] at q; exact q
    | exc c d => rw [h] at q; exact q
    | ok d =>
      rw [h, Res.bind_ok] at q
      intro H1 v1 s1 r1
      refine ⟨g, O, env, sr.grow s1, ?_⟩
      cases h2 : ms env with
      | err => rw [h2] at q; exact q
      | exc c d => rw [h2] at q; exact XW.grow s1 q
      | ok ds =>
        rw [h2, Res.bind_ok] at q
        exact fun H2 vs s2 r2 => q H2 _ (s1.trans s2) (RAk.cons s2 (hk _ _ _ _ _ sr.tr r1) r2)
theorem da_cons (ha : DE X G M .pl e m) (hr : DA X G M .pl es ms) (hs : starEach (e :: es) X.env = (false, eval e X.env) :: starEach es X.env := by rfl) : DA X G M .pl (e :: es) (aCons m ms) := da_consG ha (fun _ _ _ _ _ _ r => r) hr hs
theorem da_consC (ha : DE X G M k e m) (hr : DA X G M .co es ms) (hs : starEach (e :: es) X.env = (false, eval e X.env) :: starEach es X.env := by rfl) : DA X G M .co (e :: es) (aCons m ms) := da_consG ha.co (fun _ _ _ _ _ _ r => r) hr hs
/-- *e -/
def itemsD : D → Res (List D)
  | .list ds => .ok ds
  | .tuple ds => .ok ds
  | _ => .err
def aStar (m : Env' → Res D) (ms : Env' → Res (List D)) : Env' → Res (List D) := fun env => (m env).bind fun d => (itemsD d).bind fun xs => (ms env).bind fun ds => .ok (xs ++ ds)

theorem da_star {p : Pos} (ha : DE X G M ka e m) (hr : DA X G M kb es ms) (hs : starEach (.Starred e p :: es) X.env = (true, eval e X.env) :: starEach es X.env := by rfl) : DA X G M kb (.Starred e p :: es) (aStar m ms) :=
  pa_imp (StX.pa_star ha.co hr hs) fun σ H Q ⟨g, O, env, sr, q⟩ => by
    refine ⟨g, O, env, sr, ?_⟩
    unfold aStar at q
    cases h : m env with
    | err => rw [h] at q; exact q
    | exc c d => rw [h] at q; exact q
    | ok d =>
      rw [h, Res.bind_ok] at q
      intro H1 v1 s1 r1
      have fin : ∀ (xs : List D) (vs : List V), RpA H1 O xs vs → (match ((ms env).bind fun ds => Res.ok (xs ++ ds)) with
          | .ok ds => ∀ H' vs, Same H H' → RAk kb H' O ds vs → Q vs H' | .exc c d => XW G O σ H c d | .err => False) → tAs G M kb ms σ H1 fun ys H2 => Q (vs ++ ys) H2 := by
        intro xs vs r q
        refine ⟨g, O, env, sr.grow s1, ?_⟩
        cases h2 : ms env with
        | err => rw [h2] at q; exact q
        | exc c d => rw [h2] at q; exact XW.grow s1 q
        | ok ds =>
          rw [h2, Res.bind_ok] at q
          exact fun H2 vs' s2 r2 => q H2 _ (s1.trans s2) (RAk.append s2 r r2)
      cases d <;> simp only [itemsD, Res.bind_err] at q
      case list xs =>
        obtain ⟨a, vs, rfl, e1, r2⟩ := Rc.list_inv r1
        exact ⟨a, vs, rfl, .inr (Rd.seqL e1), fin xs vs r2 q⟩
      case tuple xs =>
        obtain ⟨a, vs, rfl, e1, r2⟩ := Rc.tuple_inv r1
        exact ⟨a, vs, rfl, .inl (Rd.seqT e1), fin xs vs r2 q⟩

/-! ### displays -/
def mList (ms : Env' → Res (List D)) : Env' → Res D := fun env => (ms env).bind fun ds => if ds.length ≤ sizeLine then .ok (.list ds) else .err
def mTup (ms : Env' → Res (List D)) : Env' → Res D := fun env => (ms env).bind fun ds => if ds.length ≤ sizeLine then .ok (.tuple ds) else .err
theorem de_list (h : DA X G M .pl es ms) : DE X G M .fr (.List es pos) (mList ms) := pe_imp (pe_lst h) fun σ H Q ⟨g, O, env, sr, q⟩ => by
  refine ⟨g, O, env, sr, ?_⟩
  unfold mList at q
  cases h : ms env with
  | err => rw [h] at q; exact q
  | exc c d => rw [h] at q; exact q
  | ok ds =>
    rw [h, Res.bind_ok] at q
    intro H1 vs s1 r1
    by_cases hz : ds.length ≤ sizeLine
    · rw [if_pos hz] at q
      have r2 : RpA H1 O ds vs := r1
      refine ⟨by rw [← r2.length]; exact hz, fun p hp => q _ _ (s1.trans (same_new hp)) ?_⟩
      exact RK.back s1 (fr_list (Trk.grow sr.tr s1) hp r2)
    · rw [if_neg hz] at q
      exact q.elim
theorem de_tup {x1} (h : DA X G M .pl es ms) : DE X G M .pl (.Tuple es x1 pos) (mTup ms) := pe_imp (pe_tup h) fun σ H Q ⟨g, O, env, sr, q⟩ => by
  refine ⟨g, O, env, sr, ?_⟩
  unfold mTup at q
  cases h : ms env with
  | err => rw [h] at q; exact q
  | exc c d => rw [h] at q; exact q
  | ok ds =>
    rw [h, Res.bind_ok] at q
    intro H1 vs s1 r1
    by_cases hz : ds.length ≤ sizeLine
    · rw [if_pos hz] at q
      have r2 : RpA H1 O ds vs := r1
      exact ⟨by rw [← r2.length]; exact hz, fun p hp => q _ _ (s1.trans (same_new hp)) (pl_tup (Trk.grow sr.tr s1) hp r2)⟩
    · rw [if_neg hz] at q
      exact q.elim

/-! ### calls of built-ins by values -/
def CB (k : Kd) (ka : Kd) (r : List V → Hp → VK → Prop) (f : List D → Option D) : Prop := ∀ {H : Hp} {O : AS} {vs : List V} {ds : List D} {d : D} {Q : VK}, Trk H O → RAk ka H O ds vs → f ds = some d →
  (∀ H' v, Same H H' → RK k H O H' d v → Q v H') → r vs H Q
def mCB (f : List D → Option D) (ms : Env' → Res (List D)) : Env' → Res D := fun env => (ms env).bind fun ds => Res.of (f ds)
theorem tCB_ok {r : List V → Hp → VK → Prop} {f : List D → Option D} (hC : CB k ka r f) (σ : L2.St) (H : Hp) (Q : VK) (h : tE G M k (mCB f ms) σ H Q) : tCB r (tAs G M ka ms) σ H Q := by
  obtain ⟨g, O, env, sr, q⟩ := h
  refine ⟨g, O, env, sr, ?_⟩
  unfold mCB at q
  cases h : ms env with
  | err => rw [h] at q; exact q
  | exc c d => rw [h] at q; exact q
  | ok ds =>
    rw [h, Res.bind_ok] at q
    intro H1 vs s1 r1
    cases hf : f ds with
    | none => rw [hf] at q; exact q.elim
    | some d => rw [hf] at q; exact hC (Trk.grow sr.tr s1) r1 hf fun H' v s r => q H' v (s1.trans s) (RK.back s1 r)
theorem de_callB {r : List V → Hp → VK → Prop} {f : List D → Option D} {x : Str} {id : String} {p : Pos} (hc : CallR X (.builtin id) r) (hC : CB k ka r f) (hg : Gl X x) (hm : X.mg x = none) (hv : bootBuiltins x = some (.builtin id)) (ha : DA X G M ka (e :: es) ms) (hn : x ≠ "__name__" := by decide) (hdb : (x == ("__debug__" : Str)) = false := by decide)
    (he : starEach (e :: es) X.env = (false, eval e X.env) :: starEach es X.env := by rfl) (hpl : (backTo pos (starEach es X.env)).any (·.1) = false := by rfl) : DE X G M k (.Call (.Name x p) (e :: es) [] pos) (mCB f ms) := pe_imp (pe_callB hc hg hm hv ha hn hdb he hpl) (tCB_ok hC)
theorem de_callTy {r : List V → Hp → VK → Prop} {f : List D → Option D} {x : Str} {T : String} {p : Pos} (hc : CallR X (.type T) r) (hC : CB k ka r f) (hg : Gl X x) (hm : X.mg x = none) (hv : bootBuiltins x = some (.type T)) (ha : DA X G M ka (e :: es) ms) (hn : x ≠ "__name__" := by decide) (hdb : (x == ("__debug__" : Str)) = false := by decide)
    (he : starEach (e :: es) X.env = (false, eval e X.env) :: starEach es X.env := by rfl) (hpl : (backTo pos (starEach es X.env)).any (·.1) = false := by rfl) : DE X G M k (.Call (.Name x p) (e :: es) [] pos) (mCB f ms) := pe_imp (pe_callTy hc hg hm hv ha hn hdb he hpl) (tCB_ok hC)
theorem RcA.one {H : Hp} {O : AS} {d : D} {vs : List V} (r : RcA H O [d] vs) : ∃ v, vs = [v] ∧ Rc H O d v := by
  cases r with | cons a b => cases b; exact ⟨_, rfl, a⟩
theorem RcA.two {H : Hp} {O : AS} {d e : D} {vs : List V} (r : RcA H O [d, e] vs) : ∃ v w, vs = [v, w] ∧ Rc H O d v ∧ Rc H O e w := by
  cases r with | cons a b => cases b with | cons b c => cases c; exact ⟨_, _, rfl, a, b⟩
def lenD : List D → Option D
  | [.list ds] => some (.int ds.length)
  | [.tuple ds] => some (.int ds.length)
  | [.str x] => if x.length ≤ sizeLine then some (.int x.length) else none
  | _ => none
theorem cb_len {K : PySem.W.Frag} : CB .pl .co (fun xs H Q => ∃ x n, xs = [x] ∧ LenV K x H n ∧ Q (.int n) H) lenD := by
  intro H O vs ds d Q tr r hf q
  unfold lenD at hf
  split at hf
  · cases hf
    obtain ⟨v, rfl, r1⟩ := RcA.one r
    obtain ⟨p, xs, rfl, e1, r2⟩ := r1.list_inv
    exact ⟨_, _, rfl, .inl ⟨xs, Rd.seqL e1, r2.length⟩, q H _ (Same.refl H) (.int _)⟩
  · cases hf
    obtain ⟨v, rfl, r1⟩ := RcA.one r
    obtain ⟨p, xs, rfl, e1, r2⟩ := r1.tuple_inv
    exact ⟨_, _, rfl, .inr ⟨xs, Rd.seqT e1, r2.length⟩, q H _ (Same.refl H) (.int _)⟩
  · split at hf
    · rename_i hz
      cases hf
      obtain ⟨v, rfl, r1⟩ := RcA.one r
      cases r1.str_inv
      exact ⟨_, _, rfl, ⟨hz, rfl⟩, q H _ (Same.refl H) (.int _)⟩
    · cases hf
  · cases hf
def intD : List D → Option D
  | [.int i] => some (.int i)
  | [.bool b] => some (.int (if b then 1 else 0))
  | _ => none
theorem cb_int : CB .pl .co (fun xs H Q => (∃ i, xs = [.int i] ∧ Q (.int i) H) ∨ ∃ k, xs = [.bl k] ∧ Q (.int (if k then 1 else 0)) H) intD := by
  intro H O vs ds d Q tr r hf q
  unfold intD at hf
  split at hf
  · cases hf
    obtain ⟨v, rfl, r1⟩ := RcA.one r
    cases r1.int_inv
    exact .inl ⟨_, rfl, q H _ (Same.refl H) (.int _)⟩
  · cases hf
    obtain ⟨v, rfl, r1⟩ := RcA.one r
    cases r1.bl_inv
    exact .inr ⟨_, rfl, q H _ (Same.refl H) (.int _)⟩
  · cases hf
def int1 (g : Int → Int) : List D → Option D
  | [.int i] => some (.int (g i))
  | _ => none
def int2 (g : Int → Int → Int) : List D → Option D
  | [.int i, .int j] => some (.int (g i j))
  | _ => none
abbrev absD := int1 fun i => if i < 0 then -i else i
abbrev maxD := int2 fun i j => if j > i then j else i
abbrev minD := int2 fun i j => if j < i then j else i
theorem cb_abs : CB .pl .co (fun xs H Q => ∃ i, xs = [.int i] ∧ Q (.int (if i < 0 then -i else i)) H) absD := by
  intro H O vs ds d Q tr r hf q
  unfold absD int1 at hf
  split at hf
  · cases hf
    obtain ⟨v, rfl, r1⟩ := RcA.one r
    cases r1.int_inv
    exact ⟨_, rfl, q H _ (Same.refl H) (.int _)⟩
  · cases hf
theorem cb_int2 {g : Int → Int → Int} : CB .pl .co (fun xs H Q => ∃ i j, xs = [.int i, .int j] ∧ Q (.int (g i j)) H) (int2 g) := by
  intro H O vs ds d Q tr r hf q
  unfold int2 at hf
  split at hf
  · cases hf
    obtain ⟨v, w, rfl, r1, r2⟩ := RcA.two r
    cases r1.int_inv; cases r2.int_inv
    exact ⟨_, _, rfl, q H _ (Same.refl H) (.int _)⟩
  · cases hf
theorem cb_max : CB .pl .co (fun xs H Q => ∃ i j, xs = [.int i, .int j] ∧ Q (.int (if j > i then j else i)) H) maxD := cb_int2
theorem cb_min : CB .pl .co (fun xs H Q => ∃ i j, xs = [.int i, .int j] ∧ Q (.int (if j < i then j else i)) H) minD := cb_int2
def listD : List D → Option D
  | [.list ds] => some (.list ds)
  | [.tuple ds] => some (.list ds)
  | _ => none
theorem cb_list {K : PySem.W.Frag} : CB .fr .co (fun xs H Q => ∃ p ys, xs = [.ref p] ∧ (SqL K H p ys ∨ SqT K H p ys) ∧ ∀ l, H l = none → Q (.ref l) (upd H l (.lst ys))) listD := by
  intro H O vs ds d Q tr r hf q
  unfold listD at hf
  split at hf
  · cases hf
    obtain ⟨v, rfl, r1⟩ := RcA.one r
    obtain ⟨p, xs, rfl, e1, r2⟩ := r1.list_inv
    exact ⟨_, _, rfl, .inl (Rd.seqL e1), fun l hl => q _ _ (same_new hl) (fr_list tr hl r2)⟩
  · cases hf
    obtain ⟨v, rfl, r1⟩ := RcA.one r
    obtain ⟨p, xs, rfl, e1, r2⟩ := r1.tuple_inv
    exact ⟨_, _, rfl, .inr (Rd.seqT e1), fun l hl => q _ _ (same_new hl) (fr_list tr hl r2)⟩
  · cases hf
def tupleD : List D → Option D
  | [.list ds] => some (.tuple ds)
  | [.tuple ds] => some (.tuple ds)
  | _ => none
theorem cb_tuple {K : PySem.W.Frag} : CB .pl .co (fun xs H Q => ∃ p ys, xs = [.ref p] ∧ ((SqL K H p ys ∧ ∀ l, H l = none → Q (.ref l) (upd H l (.tup ys))) ∨ (SqT K H p ys ∧ Q (.ref p) H))) tupleD := by
  intro H O vs ds d Q tr r hf q
  unfold tupleD at hf
  split at hf
  · cases hf
    obtain ⟨v, rfl, r1⟩ := RcA.one r
    obtain ⟨p, xs, rfl, e1, r2⟩ := r1.list_inv
    exact ⟨_, _, rfl, .inl ⟨Rd.seqL e1, fun l hl => q _ _ (same_new hl) (pl_tup tr hl r2)⟩⟩
  · cases hf
    obtain ⟨v, rfl, r1⟩ := RcA.one r
    obtain ⟨p, xs, rfl, e1, r2⟩ := r1.tuple_inv
    refine ⟨_, _, rfl, .inr ⟨Rd.seqT e1, q _ _ (Same.refl H) ?_⟩⟩
    cases r1 with
    | of r => exact r
    | rt r => cases r
  · cases hf
variable {p : Pos}
theorem de_len (hg : Gl X "len") (hm : X.mg "len" = none) (ha : DA X G M .co [e] ms) (he : starEach [e] X.env = [(false, eval e X.env)] := by rfl) : DE X G M .pl (.Call (.Name "len" p) [e] [] pos) (mCB lenD ms) := de_callB call_len cb_len hg hm boot_len ha (he := he)
end
end DL

namespace DL
open PySem PySem.Spec L2

inductive Out where
  | nx (e : Env') | rt (d : D) | bk (e : Env') | ct (e : Env') | exc (c : Str) (d : D) (e : Env') | err
/-- the modes at break and continue, at an exception; how a result is owned -/
structure Lp where
  Mb : List Md
  Mx : List Md
  kr : Kd
def tS (G : Gd) (L : Lp) (M M' : List Md) (m : Env' → Out) : TS := fun E σ H => ∃ (g : Gr G.ex) (O : AS) (env : Env'), SR g.H0 g.O0 M O env σ H ∧ match m env with
  | .nx e => ∀ σ' H' O', Sub H O H' O' → SR g.H0 g.O0 M' O' e σ' H' → E.nx σ' H'
  | .rt d => ∀ H' v, Same g.H0 H' → RK L.kr g.H0 g.O0 H' d v → E.rt v H'
  | .bk e => ∀ σ' H' O', Sub H O H' O' → SR g.H0 g.O0 L.Mb O' e σ' H' → E.bk σ' H'
  | .ct e => ∀ σ' H' O', Sub H O H' O' → SR g.H0 g.O0 L.Mb O' e σ' H' → E.ct σ' H'
  | .exc c d e => ∀ σ' H' O' dd cls va, Sub H O H' O' → SR g.H0 g.O0 L.Mx O' e σ' H' → G.mg c = some cls → H' dd = some (.xd [(("at" : Str), va)]) → Rp H' O' d va → G.W cls (some dd) σ' H'
  | .err => False
def DS (X : Cx) (G : Gd) (L : Lp) (M M' : List Md) (st : Stmt) (m : Env' → Out) : Prop := PS X st (tS G L M M' m)
def DSs (X : Cx) (G : Gd) (L : Lp) (M M' : List Md) (sts : List Stmt) (m : Env' → Out) : Prop := PSs X sts (tS G L M M' m)
theorem ps_imp {X : Cx} {e : Stmt} {t t' : TS} (h : PS X e t) (i : ∀ E σ H, t' E σ H → t E σ H) : PS X e t' := ⟨fun pins s σ H D I q => h.run pins s σ H D I (i D σ H q)⟩
theorem pss_imp {X : Cx} {e : List Stmt} {t t' : TS} (h : PSs X e t) (i : ∀ E σ H, t' E σ H → t E σ H) : PSs X e t' := ⟨fun pins s σ H D I q => h.run pins s σ H D I (i D σ H q)⟩

/-! ### modes forgotten -/
/-- each known mode of the second list is the first one's -/
def mle : List Md → List Md → Bool
  | _, [] => true
  | m :: ms, n :: ns => (decide (n = .un) || decide (m = n)) && mle ms ns
  | [], n :: ns => decide (n = .un) && mle [] ns
theorem mle_get : ∀ {M N : List Md} {i : Nat} {md : Md}, mle M N = true → N[i]? = some md → md ≠ .un → M[i]? = some md
  | _, [], i, md, _, h, _ => by simp at h
  | m :: ms, n :: ns, 0, md, h, e, u => by
    simp only [mle, Bool.and_eq_true, Bool.or_eq_true, decide_eq_true_eq] at h
    simp at e
    subst e
    rcases h.1 with z | z
    · exact absurd z u
    · simp [z]
  | m :: ms, n :: ns, i + 1, md, h, e, u => by
    simp only [mle, Bool.and_eq_true] at h
    simp only [List.getElem?_cons_succ] at e ⊢
    exact mle_get h.2 e u
  | [], n :: ns, 0, md, h, e, u => by
    simp only [mle, Bool.and_eq_true, decide_eq_true_eq] at h
    simp at e
    subst e
    exact absurd h.1 u
  | [], n :: ns, i + 1, md, h, e, u => by
    simp only [mle, Bool.and_eq_true] at h
    simp only [List.getElem?_cons_succ] at e
    have := mle_get (M := []) h.2 e u
    simp at this
theorem SR.weak {H0 H : Hp} {O0 O : AS} {M N : List Md} {env : Env'} {σ : L2.St} (h : mle M N = true) (r : SR H0 O0 M O env σ H) : SR H0 O0 N O env σ H where
  same := r.same
  sub0 := r.sub0
  tr := r.tr
  new := r.new
  len := r.len
  fz := fun i d hm he => r.fz i d (mle_get h hm (by simp)) he
  ow := fun i d hm he => r.ow i d (mle_get h hm (by simp)) he
  dist := fun i j d e a h1 h2 => r.dist i j d e a (mle_get h h1 (by simp)) (mle_get h h2 (by simp))
  exs := fun i a hm => r.exs i a (mle_get h hm (by simp))
/-- a slot is frozen -/
theorem SR.freeze {H0 H : Hp} {O0 O : AS} {M : List Md} {env : Env'} {σ : L2.St} (i : Nat) (r : SR H0 O0 M O env σ H) (ho : M[i]? = some .ow) : ∃ O', Sub H O H O' ∧ SR H0 O0 (M.set i .fz) O' env σ H := by
  cases he : env[i]? with
  | none =>
    refine ⟨O, Sub.refl _ _, ⟨r.same, r.sub0, r.tr, r.new, r.len, fun j d hm e => ?_, fun j d hm e => ?_, fun j l d e a h1 h2 h3 h4 => ?_, fun j a hm => ?_⟩⟩
    · have ne : j ≠ i := fun z => by subst z; rw [he] at e; cases e
      rw [List.getElem?_set_ne (Ne.symm ne)] at hm
      exact r.fz j d hm e
    · have ne : j ≠ i := fun z => by subst z; rw [he] at e; cases e
      rw [List.getElem?_set_ne (Ne.symm ne)] at hm
      exact r.ow j d hm e
    · have ne : j ≠ i := fun z => by subst z; rw [he] at h3; cases h3
      have ne2 : l ≠ i := fun z => by subst z; rw [he] at h4; cases h4
      rw [List.getElem?_set_ne (Ne.symm ne)] at h1
      rw [List.getElem?_set_ne (Ne.symm ne2)] at h2
      exact r.dist j l d e a h1 h2 h3 h4
    · have ne : j ≠ i := fun z => by
        subst z
        obtain ⟨hlt, _⟩ := List.getElem?_eq_some_iff.mp ho
        rw [List.getElem?_set_self hlt] at hm; cases hm
      rw [List.getElem?_set_ne (Ne.symm ne)] at hm
      exact r.exs _ _ hm
  | some o =>
    cases o with
    | none =>
      refine ⟨O, Sub.refl _ _, ⟨r.same, r.sub0, r.tr, r.new, r.len, fun j d hm e => ?_, fun j d hm e => ?_, fun j l d e a h1 h2 h3 h4 => ?_, fun j a hm => ?_⟩⟩
      · have ne : j ≠ i := fun z => by subst z; rw [he] at e; cases e
        rw [List.getElem?_set_ne (Ne.symm ne)] at hm
        exact r.fz j d hm e
      · have ne : j ≠ i := fun z => by subst z; rw [he] at e; cases e
        rw [List.getElem?_set_ne (Ne.symm ne)] at hm
        exact r.ow j d hm e
      · have ne : j ≠ i := fun z => by subst z; rw [he] at h3; cases h3
        have ne2 : l ≠ i := fun z => by subst z; rw [he] at h4; cases h4
        rw [List.getElem?_set_ne (Ne.symm ne)] at h1
        rw [List.getElem?_set_ne (Ne.symm ne2)] at h2
        exact r.dist j l d e a h1 h2 h3 h4
      · have ne : j ≠ i := fun z => by
          subst z
          obtain ⟨hlt, _⟩ := List.getElem?_eq_some_iff.mp ho
          rw [List.getElem?_set_self hlt] at hm; cases hm
        rw [List.getElem?_set_ne (Ne.symm ne)] at hm
        exact r.exs _ _ hm
    | some di =>
      obtain ⟨a, ea, oa, na, ra⟩ := r.ow i di ho he
      have less : ∀ b, (O b ∧ b ≠ a) → O b := fun b z => z.1
      have sub : Sub H O H (fun b => O b ∧ b ≠ a) := Sub.less less
      refine ⟨fun b => O b ∧ b ≠ a, sub, ⟨r.same, fun b hb => ⟨r.sub0 b hb, fun z => by subst z; exact na hb⟩, fun b hb => r.tr b hb.1, fun b hb => r.new b hb.1, r.len, fun j d hm e => ?_, fun j d hm e => ?_, fun j l d e a' h1 h2 h3 h4 => ?_, fun j a' hm => ?_⟩⟩
      · by_cases ne : j = i
        · subst ne
          rw [he] at e; cases e
          exact ⟨_, ea, ra.rp sub fun z => z.2 rfl⟩
        · rw [List.getElem?_set_ne (Ne.symm ne)] at hm
          obtain ⟨v, ev, q⟩ := r.fz j d hm e
          exact ⟨v, ev, q.mono sub⟩
      · have ne : j ≠ i := fun z => by
          subst z
          obtain ⟨hlt, _⟩ := List.getElem?_eq_some_iff.mp ho
          rw [List.getElem?_set_self hlt] at hm; cases hm
        rw [List.getElem?_set_ne (Ne.symm ne)] at hm
        obtain ⟨b, eb, ob, nb, rb⟩ := r.ow j d hm e
        refine ⟨b, eb, ⟨ob, fun z => ?_⟩, nb, rb.mono sub rfl⟩
        subst z
        exact ne (r.dist j i d di b hm ho e he eb ea)
      · have hne : ∀ {x : Nat}, (M.set i .fz)[x]? = some Md.ow → x ≠ i := fun {x} hm z => by
          subst z
          obtain ⟨hlt, _⟩ := List.getElem?_eq_some_iff.mp ho
          rw [List.getElem?_set_self hlt] at hm; cases hm
        rw [List.getElem?_set_ne (Ne.symm (hne h1))] at h1
        rw [List.getElem?_set_ne (Ne.symm (hne h2))] at h2
        exact r.dist j l d e a' h1 h2 h3 h4
      · have ne : j ≠ i := fun z => by
          subst z
          obtain ⟨hlt, _⟩ := List.getElem?_eq_some_iff.mp ho
          rw [List.getElem?_set_self hlt] at hm; cases hm
        rw [List.getElem?_set_ne (Ne.symm ne)] at hm
        exact r.exs _ _ hm
/-- a slot is set, to frozen data -/
theorem SR.setF {H0 H : Hp} {O0 O : AS} {M : List Md} {env : Env'} {σ : L2.St} {d : D} {v : V} (i : Nat) (r : SR H0 O0 M O env σ H) (q : Rp H O d v) : SR H0 O0 (M.set i .fz) O (env.set i (some d)) (σ.set i (some v)) H where
  same := r.same
  sub0 := r.sub0
  tr := r.tr
  new := r.new
  len := by simpa using r.len
  fz := fun j e hm he => by
    by_cases ne : j = i
    · subst ne
      obtain ⟨hlt, _⟩ := List.getElem?_eq_some_iff.mp he
      have hlt' : j < env.length := by simpa using hlt
      rw [List.getElem?_set_self hlt'] at he
      cases he
      exact ⟨v, List.getElem?_set_self (by rw [← r.len]; exact hlt'), q⟩
    · rw [List.getElem?_set_ne (Ne.symm ne)] at hm he ⊢
      exact r.fz j e hm he
  ow := fun j e hm he => by
    by_cases ne : j = i
    · subst ne
      obtain ⟨hlt, _⟩ := List.getElem?_eq_some_iff.mp hm
      rw [List.getElem?_set_self (by simpa using hlt)] at hm
      cases hm
    · rw [List.getElem?_set_ne (Ne.symm ne)] at hm he ⊢
      exact r.ow j e hm he
  dist := fun j l e f a h1 h2 h3 h4 h5 h6 => by
    have hne : ∀ {x : Nat}, (M.set i .fz)[x]? = some Md.ow → x ≠ i := fun {x} hm z => by
      subst z
      obtain ⟨hlt, _⟩ := List.getElem?_eq_some_iff.mp hm
      rw [List.getElem?_set_self (by simpa using hlt)] at hm; cases hm
    have n1 := hne h1
    have n2 := hne h2
    rw [List.getElem?_set_ne (Ne.symm n1)] at h1 h3 h5
    rw [List.getElem?_set_ne (Ne.symm n2)] at h2 h4 h6
    exact r.dist j l e f a h1 h2 h3 h4 h5 h6
  exs := fun j a hm => by
    have ne : j ≠ i := fun z => by
      subst z
      obtain ⟨hlt, _⟩ := List.getElem?_eq_some_iff.mp hm
      rw [List.getElem?_set_self (by simpa using hlt)] at hm; cases hm
    rw [List.getElem?_set_ne (Ne.symm ne)] at hm ⊢
    exact r.exs j a hm
/-- .. to an object of its own at a new address -/
theorem SR.setO {H0 H H' : Hp} {O0 O : AS} {M : List Md} {env : Env'} {σ : L2.St} {d : D} {p : Addr} (i : Nat) (r : SR H0 O0 M O env σ H) (s : Same H H') (hp : H p = none) (q : Rt H' (fun b => O b ∨ b = p) d p) :
    Sub H O H' (fun b => O b ∨ b = p) ∧ SR H0 O0 (M.set i .ow) (fun b => O b ∨ b = p) (env.set i (some d)) (σ.set i (some (.ref p))) H' := by
  have sub : Sub H O H' (fun b => O b ∨ b = p) := (Sub.more hp).trans (Sub.same s _)
  refine ⟨sub, ⟨r.same.trans s, fun a h => .inl (r.sub0 a h), fun a h => ?_, fun a h => ?_, by simpa using r.len, fun j e hm he => ?_, fun j e hm he => ?_, fun j l e f a h1 h2 h3 h4 h5 h6 => ?_, fun j a hm => ?_⟩⟩
  · rcases h with h | rfl
    · exact Trk.grow r.tr s a h
    · cases q with
      | lst e _ => exact ⟨_, e, trivial⟩
      | dK e _ => exact ⟨_, e, trivial⟩
      | dT e _ => exact ⟨_, e, trivial⟩
  · rcases h with h | rfl
    · exact r.new a h
    · exact .inr (r.same.free hp)
  · have ne : j ≠ i := fun z => by
      subst z
      obtain ⟨hlt, _⟩ := List.getElem?_eq_some_iff.mp hm
      rw [List.getElem?_set_self (by simpa using hlt)] at hm
      cases hm
    rw [List.getElem?_set_ne (Ne.symm ne)] at hm he ⊢
    obtain ⟨v, ev, qv⟩ := r.fz j e hm he
    exact ⟨v, ev, qv.mono sub⟩
  · by_cases ne : j = i
    · subst ne
      obtain ⟨hlt, _⟩ := List.getElem?_eq_some_iff.mp he
      have hlt' : j < env.length := by simpa using hlt
      rw [List.getElem?_set_self hlt'] at he
      cases he
      refine ⟨p, List.getElem?_set_self (by rw [← r.len]; exact hlt'), .inr rfl, fun z => ?_, q⟩
      exact (Trk.not r.tr hp) (r.sub0 p z)
    · rw [List.getElem?_set_ne (Ne.symm ne)] at hm he ⊢
      obtain ⟨a, ea, oa, na, ra⟩ := r.ow j e hm he
      exact ⟨a, ea, .inl oa, na, ra.same s sub⟩
  · have new : ∀ {x : Nat} {y : D} {b : Addr}, M[x]? = some .ow → env[x]? = some (some y) → σ[x]? = some (some (.ref b)) → b ≠ p := fun {x y b} hm he hs z => by
      subst z
      obtain ⟨b', eb, ob, _, _⟩ := r.ow x y hm he
      rw [hs] at eb
      cases eb
      exact Trk.not r.tr hp ob
    have self : ∀ {x : Nat} {y : D} {b : Addr}, (env.set x (some d))[x]? = some (some y) → (σ.set x (some (.ref p)))[x]? = some (some (V.ref b)) → b = p := fun {x y b} he hs => by
      obtain ⟨hlt, _⟩ := List.getElem?_eq_some_iff.mp hs
      rw [List.getElem?_set_self (by simpa using hlt)] at hs
      cases hs; rfl
    by_cases n1 : j = i
    · subst n1
      by_cases n2 : l = j
      · exact n2.symm
      · rw [List.getElem?_set_ne (Ne.symm n2)] at h2 h4 h6
        have e1 := self h3 h5
        subst e1
        exact absurd rfl (new h2 h4 h6)
    · by_cases n2 : l = i
      · subst n2
        rw [List.getElem?_set_ne (Ne.symm n1)] at h1 h3 h5
        have e1 := self h4 h6
        subst e1
        exact absurd rfl (new h1 h3 h5)
      · rw [List.getElem?_set_ne (Ne.symm n1)] at h1 h3 h5
        rw [List.getElem?_set_ne (Ne.symm n2)] at h2 h4 h6
        exact r.dist j l e f a h1 h2 h3 h4 h5 h6
  · have ne : j ≠ i := fun z => by
      subst z
      obtain ⟨hlt, _⟩ := List.getElem?_eq_some_iff.mp hm
      rw [List.getElem?_set_self (by simpa using hlt)] at hm; cases hm
    rw [List.getElem?_set_ne (Ne.symm ne)] at hm ⊢
    exact r.exs j a hm
/-- an owned object is written -/
theorem SR.write {H0 H : Hp} {O0 O : AS} {M : List Md} {env : Env'} {σ : L2.St} {d d' : D} {p : Addr} {o : HO} (i : Nat) (r : SR H0 O0 M O env σ H) (hm : M[i]? = some .ow) (he : env[i]? = some (some d)) (hs : σ[i]? = some (some (.ref p))) (mu : Mut (some o))
    (q : Rt (upd H p o) O d' p) : Sub H O (upd H p o) O ∧ SR H0 O0 M O (env.set i (some d')) σ (upd H p o) := by
  obtain ⟨a, ea, oa, na, ra⟩ := r.ow i d hm he
  rw [hs] at ea
  cases ea
  have sub : Sub H O (upd H p o) O := Sub.upd oa
  refine ⟨sub, ⟨fun b u e => ?_, r.sub0, fun b hb => ?_, r.new, by simpa using r.len, fun j e hm' he' => ?_, fun j e hm' he' => ?_, fun j l e f a' h1 h2 h3 h4 h5 h6 => ?_, r.exs⟩⟩
  · have ne : b ≠ p := fun z => by
      subst z
      rcases r.new b oa with z | z
      · exact na z
      · rw [e] at z; cases z
    rw [upd_ne ne]
    exact r.same b u e
  · by_cases ne : b = p
    · subst ne; exact ⟨o, upd_same, mu⟩
    · obtain ⟨u, e, m⟩ := r.tr b hb
      exact ⟨u, by rw [upd_ne ne]; exact e, m⟩
  · have ne : j ≠ i := fun z => by subst z; rw [hm] at hm'; cases hm'
    rw [List.getElem?_set_ne (Ne.symm ne)] at he'
    obtain ⟨v, ev, qv⟩ := r.fz j e hm' he'
    exact ⟨v, ev, qv.mono sub⟩
  · by_cases ne : j = i
    · subst ne
      obtain ⟨hlt, _⟩ := List.getElem?_eq_some_iff.mp he
      rw [List.getElem?_set_self hlt] at he'
      cases he'
      exact ⟨p, hs, oa, na, q⟩
    · rw [List.getElem?_set_ne (Ne.symm ne)] at he'
      obtain ⟨b, eb, ob, nb, rb⟩ := r.ow j e hm' he'
      refine ⟨b, eb, ob, nb, rb.mono sub (upd_ne fun z => ?_)⟩
      subst z
      exact ne (r.dist j i e d b hm' hm he' he eb hs)
  · have old : ∀ {x : Nat} {y : D}, (env.set i (some d'))[x]? = some (some y) → ∃ y', env[x]? = some (some y') := fun {x y} hx => by
      by_cases ne : x = i
      · subst ne; exact ⟨d, he⟩
      · rw [List.getElem?_set_ne (Ne.symm ne)] at hx
        exact ⟨y, hx⟩
    obtain ⟨e', h3'⟩ := old h3
    obtain ⟨f', h4'⟩ := old h4
    exact r.dist j l e' f' a' h1 h2 h3' h4' h5 h6
end DL

namespace DL
open PySem PySem.Spec L2
section
variable {X : Cx} {G : Gd} {L : Lp} {M M' M'' : List Md} {k ka kb : Kd} {a b e : Expr} {m ma mb : Env' → Res D} {nc : Env' → Res Bool} {pos : Pos} {st : Stmt} {sts : List Stmt} {o o1 o2 : Env' → Out}

def exOut {α : Type} (r : Res α) (env : Env') (f : α → Out) : Out := match r with
  | .ok d => f d
  | .exc c d => .exc c d env
  | .err => .err
@[simp] theorem exOut_ok {α : Type} (a : α) (env : Env') (f : α → Out) : exOut (.ok a) env f = f a := rfl
@[simp] theorem exOut_exc {α : Type} (c : Str) (d : D) (env : Env') (f : α → Out) : exOut (.exc c d) env f = .exc c d env := rfl
@[simp] theorem exOut_err {α : Type} (env : Env') (f : α → Out) : exOut .err env f = .err := rfl
/-- what is wanted of an outcome -/
def OutOk (G : Gd) (L : Lp) (M' : List Md) (g : Gr G.ex) (O : AS) (H : Hp) (E : Ends) : Out → Prop
  | .nx e => ∀ σ' H' O', Sub H O H' O' → SR g.H0 g.O0 M' O' e σ' H' → E.nx σ' H'
  | .rt d => ∀ H' v, Same g.H0 H' → RK L.kr g.H0 g.O0 H' d v → E.rt v H'
  | .bk e => ∀ σ' H' O', Sub H O H' O' → SR g.H0 g.O0 L.Mb O' e σ' H' → E.bk σ' H'
  | .ct e => ∀ σ' H' O', Sub H O H' O' → SR g.H0 g.O0 L.Mb O' e σ' H' → E.ct σ' H'
  | .exc c d e => ∀ σ' H' O' dd cls va, Sub H O H' O' → SR g.H0 g.O0 L.Mx O' e σ' H' → G.mg c = some cls → H' dd = some (.xd [(("at" : Str), va)]) → Rp H' O' d va → G.W cls (some dd) σ' H'
  | .err => False
theorem tS_iff {E : Ends} {σ : L2.St} {H : Hp} : tS G L M M' o E σ H ↔ ∃ (g : Gr G.ex) (O : AS) (env : Env'), SR g.H0 g.O0 M O env σ H ∧ OutOk G L M' g O H E (o env) := by
  unfold tS OutOk
  constructor
  · rintro ⟨g, O, env, sr, q⟩
    refine ⟨g, O, env, sr, ?_⟩
    cases h : o env <;> rw [h] at q <;> exact q
  · rintro ⟨g, O, env, sr, q⟩
    refine ⟨g, O, env, sr, ?_⟩
    cases h : o env <;> rw [h] at q <;> exact q
theorem OutOk.sub {g : Gr G.ex} {O O1 : AS} {H H1 : Hp} {E : Ends} {x : Out} (s : Sub H O H1 O1) (q : OutOk G L M' g O H E x) : OutOk G L M' g O1 H1 E x := by
  cases x with
  | nx e => exact fun σ' H' O' s' => q σ' H' O' (s.trans s')
  | rt d => exact q
  | bk e => exact fun σ' H' O' s' => q σ' H' O' (s.trans s')
  | ct e => exact fun σ' H' O' s' => q σ' H' O' (s.trans s')
  | exc c d e => exact fun σ' H' O' dd cls va s' => q σ' H' O' dd cls va (s.trans s')
  | err => exact q
/-- the same outcome, wanted of other ends -/
theorem OutOk.ends {g : Gr G.ex} {O : AS} {H : Hp} {E E' : Ends} {x : Out} (q : OutOk G L M' g O H E x) (h1 : E'.nx = E.nx) (h2 : E'.rt = E.rt) (h3 : E'.bk = E.bk) (h4 : E'.ct = E.ct) : OutOk G L M' g O H E' x := by
  cases x with
  | nx e => exact fun σ' H' O' s r => by rw [h1]; exact q σ' H' O' s r
  | rt d => exact fun H' v s r => by rw [h2]; exact q H' v s r
  | bk e => exact fun σ' H' O' s r => by rw [h3]; exact q σ' H' O' s r
  | ct e => exact fun σ' H' O' s r => by rw [h4]; exact q σ' H' O' s r
  | exc c d e => exact q
  | err => exact q
/-- an expression ahead of the rest -/
theorem tE_go {g : Gr G.ex} {O : AS} {env : Env'} {σ : L2.St} {H : Hp} {Q : VK} {E : Ends} {f : D → Out} (sr : SR g.H0 g.O0 M O env σ H) (hx : mle M L.Mx = true) (q : OutOk G L M' g O H E (exOut (m env) env f))
    (hk : ∀ d, OutOk G L M' g O H E (f d) → ∀ H' v, Same H H' → RK k H O H' d v → Q v H') : tE G M k m σ H Q := by
  refine ⟨g, O, env, sr, ?_⟩
  cases h : m env with
  | err => rw [h] at q; exact q
  | exc c d =>
    rw [h] at q
    exact fun H' dd cls va s h1 h2 h3 => q σ H' O dd cls va (Sub.same s O) ((sr.grow s).weak hx) h1 h2 h3
  | ok d =>
    rw [h] at q
    exact hk d q
theorem tT_go {g : Gr G.ex} {O : AS} {env : Env'} {σ : L2.St} {H : Hp} {Q : Bool → Hp → Prop} {E : Ends} {f : Bool → Out} (sr : SR g.H0 g.O0 M O env σ H) (hx : mle M L.Mx = true) (q : OutOk G L M' g O H E (exOut (nc env) env f))
    (hk : ∀ d, OutOk G L M' g O H E (f d) → ∀ H', Same H H' → Q d H') : tT G M nc σ H Q := by
  refine ⟨g, O, env, sr, ?_⟩
  cases h : nc env with
  | err => rw [h] at q; exact q
  | exc c d =>
    rw [h] at q
    exact fun H' dd cls va s h1 h2 h3 => q σ H' O dd cls va (Sub.same s O) ((sr.grow s).weak hx) h1 h2 h3
  | ok d =>
    rw [h] at q
    exact hk d q

/-! ### blocks -/
def oSkip : Env' → Out := .nx
def oSeq (o1 o2 : Env' → Out) : Env' → Out := fun env => match o1 env with
  | .nx e => o2 e
  | x => x
theorem dss_nil : DSs X G L M M [] oSkip := pss_imp pss_nil fun E σ H h => by
  obtain ⟨g, O, env, sr, q⟩ := tS_iff.mp h
  exact q σ H O (Sub.refl _ _) sr
theorem tS_seq {E : Ends} {σ : L2.St} {H : Hp} (h : tS G L M M'' (oSeq o1 o2) E σ H) : tS G L M M' o1 { E with nx := tS G L M' M'' o2 E } σ H := by
  obtain ⟨g, O, env, sr, q⟩ := tS_iff.mp h
  refine tS_iff.mpr ⟨g, O, env, sr, ?_⟩
  unfold oSeq at q
  cases h1 : o1 env with
  | nx e =>
    rw [h1] at q
    exact fun σ' H' O' s r => tS_iff.mpr ⟨g, O', e, r, q.sub s⟩
  | rt d => rw [h1] at q; exact q
  | bk e => rw [h1] at q; exact q
  | ct e => rw [h1] at q; exact q
  | exc c d e => rw [h1] at q; exact q
  | err => rw [h1] at q; exact q
theorem dss_cons (h1 : DS X G L M M' st o1) (h2 : DSs X G L M' M'' sts o2) : DSs X G L M M'' (st :: sts) (oSeq o1 o2) := pss_imp (pss_cons h1 h2) fun E σ H h => tS_seq h
theorem dss_one (h1 : DS X G L M M' st o) : DSs X G L M M' [st] o := pss_one h1
/-- an owned slot is frozen from here on -/
theorem dss_freeze (i : Nat) (hi : M[i]? = some .ow) (h : DSs X G L (M.set i .fz) M' sts o) : DSs X G L M M' sts o := pss_imp h fun E σ H h => by
  obtain ⟨g, O, env, sr, q⟩ := tS_iff.mp h
  obtain ⟨O', sub, sr'⟩ := sr.freeze i hi
  exact tS_iff.mpr ⟨g, O', env, sr', q.sub sub⟩
/-- modes are forgotten behind -/
theorem tS_weakR {N : List Md} {E : Ends} {σ : L2.St} {H : Hp} (hw : mle M' N = true) (h : tS G L M N o E σ H) : tS G L M M' o E σ H := by
  obtain ⟨g, O, env, sr, q⟩ := tS_iff.mp h
  refine tS_iff.mpr ⟨g, O, env, sr, ?_⟩
  cases h1 : o env with
  | nx e => rw [h1] at q; exact fun σ' H' O' s r => q σ' H' O' s (r.weak hw)
  | rt d => rw [h1] at q; exact q
  | bk e => rw [h1] at q; exact q
  | ct e => rw [h1] at q; exact q
  | exc c d e => rw [h1] at q; exact q
  | err => rw [h1] at q; exact q
theorem dss_weakR {N : List Md} (hw : mle M' N = true) (h : DSs X G L M M' sts o) : DSs X G L M N sts o := pss_imp h fun E σ H h => tS_weakR hw h
/-- .. ahead -/
theorem tS_weakL {N : List Md} {E : Ends} {σ : L2.St} {H : Hp} (hw : mle N M = true) (h : tS G L N M' o E σ H) : tS G L M M' o E σ H := by
  obtain ⟨g, O, env, sr, q⟩ := tS_iff.mp h
  exact tS_iff.mpr ⟨g, O, env, sr.weak hw, q⟩
theorem dss_weakL {N : List Md} (hw : mle N M = true) (h : DSs X G L M M' sts o) : DSs X G L N M' sts o := pss_imp h fun E σ H h => tS_weakL hw h
/-- a block that never goes on: any modes behind -/
theorem tS_stop {E : Ends} {σ : L2.St} {H : Hp} {N : List Md} (hn : ∀ env e, o env ≠ .nx e) (h : tS G L M N o E σ H) : tS G L M M' o E σ H := by
  obtain ⟨g, O, env, sr, q⟩ := tS_iff.mp h
  refine tS_iff.mpr ⟨g, O, env, sr, ?_⟩
  cases h1 : o env with
  | nx e => exact absurd h1 (hn env e)
  | rt d => rw [h1] at q; exact q
  | bk e => rw [h1] at q; exact q
  | ct e => rw [h1] at q; exact q
  | exc c d e => rw [h1] at q; exact q
  | err => rw [h1] at q; exact q
/-- a statement whose modes behind are any: pass, break, continue, return -/
theorem ds_pass : DS X G L M M (.Pass pos) oSkip := ps_imp ps_pass fun E σ H h => by
  obtain ⟨g, O, env, sr, q⟩ := tS_iff.mp h
  exact q σ H O (Sub.refl _ _) sr
theorem ds_break (hb : mle M L.Mb = true) : DS X G L M M' (.Break pos) .bk := ps_imp ps_break fun E σ H h => by
  obtain ⟨g, O, env, sr, q⟩ := tS_iff.mp h
  exact q σ H O (Sub.refl _ _) (sr.weak hb)
theorem ds_continue (hb : mle M L.Mb = true) : DS X G L M M' (.Continue pos) .ct := ps_imp ps_continue fun E σ H h => by
  obtain ⟨g, O, env, sr, q⟩ := tS_iff.mp h
  exact q σ H O (Sub.refl _ _) (sr.weak hb)
def oRet (m : Env' → Res D) : Env' → Out := fun env => exOut (m env) env .rt
theorem ds_ret (hx : mle M L.Mx = true) (hk : L.kr = .pl) (he : DE X G M .pl e m) : DS X G L M M' (.Return (some e) pos) (oRet m) := ps_imp (ps_ret he) fun E σ H h => by
  obtain ⟨g, O, env, sr, q⟩ := tS_iff.mp h
  refine tE_go sr hx q fun d q H' v s r => q H' v (sr.same.trans s) ?_
  rw [hk]
  exact Rp.mono (Sub.less sr.sub0) r
theorem ds_retF (hx : mle M L.Mx = true) (hk : L.kr = .fr) (he : DE X G M .fr e m) : DS X G L M M' (.Return (some e) pos) (oRet m) := ps_imp (ps_ret he) fun E σ H h => by
  obtain ⟨g, O, env, sr, q⟩ := tS_iff.mp h
  refine tE_go sr hx q fun d q H' v s r => q H' v (sr.same.trans s) ?_
  rw [hk]
  obtain ⟨p, e, n, r⟩ := r
  exact ⟨p, e, sr.same.free n, r.mono (Sub.less fun b z => z.elim (fun z => .inl (sr.sub0 b z)) .inr) rfl⟩
/-- return x, x owned -/
theorem ds_retO {i : Nat} (hi : M[i]? = some .ow) (hk : L.kr = .fr) (he : PE X e (tVar i)) : DS X G L M M' (.Return (some e) pos) (oRet (mVar i)) := ps_imp (ps_ret he) fun E σ H h => by
  obtain ⟨g, O, env, sr, q⟩ := tS_iff.mp h
  unfold oRet mVar at q
  cases he : env[i]? with
  | none => rw [he] at q; exact q.elim
  | some o =>
    cases o with
    | none => rw [he] at q; exact q.elim
    | some d =>
      rw [he] at q
      obtain ⟨p, ev, op, np, r⟩ := sr.ow i d hi he
      refine ⟨_, ev, q H _ sr.same ?_⟩
      rw [hk]
      refine ⟨p, rfl, ?_, r.mono (Sub.less fun b z => z.elim (fun z => sr.sub0 b z) fun z => z ▸ op) rfl⟩
      rcases sr.new p op with z | z
      · exact absurd z np
      · exact z
theorem ds_retN (hk : L.kr = .pl) : DS X G L M M' (.Return none pos) (fun _ => .rt .none) := ps_imp ps_retN fun E σ H h => by
  obtain ⟨g, O, env, sr, q⟩ := tS_iff.mp h
  exact q H _ sr.same (by rw [hk]; exact .non)
def oDrop (m : Env' → Res D) : Env' → Out := fun env => exOut (m env) env fun _ => .nx env
theorem ds_expr (hx : mle M L.Mx = true) (he : DE X G M k e m) (hs : swapsWith e none pos.line X.env = pure false := by rfl) : DS X G L M M (.Expr e pos) (oDrop m) := ps_imp (ps_expr he hs) fun E σ H h => by
  obtain ⟨g, O, env, sr, q⟩ := tS_iff.mp h
  exact tE_go sr hx q fun d q H' v s r => q σ H' O (Sub.same s O) (sr.grow s)
def oIf (nc : Env' → Res Bool) (o1 o2 : Env' → Out) : Env' → Out := fun env => exOut (nc env) env fun b => if b = true then o1 env else o2 env
theorem ds_if {c : Expr} {xs ys : List Stmt} (hx : mle M L.Mx = true) (hc : DT X G M c nc) (ha : DSs X G L M M' xs o1) (hb : DSs X G L M M' ys o2) : DS X G L M M' (.If c xs ys pos) (oIf nc o1 o2) := ps_imp (ps_if hc ha hb) fun E σ H h => by
  obtain ⟨g, O, env, sr, q⟩ := tS_iff.mp h
  refine tT_go sr hx q fun b q H' s => ?_
  cases b with
  | true =>
    rw [if_pos rfl] at q ⊢
    exact tS_iff.mpr ⟨g, O, env, sr.grow s, q.sub (Sub.same s O)⟩
  | false =>
    rw [if_neg Bool.false_ne_true] at q ⊢
    exact tS_iff.mpr ⟨g, O, env, sr.grow s, q.sub (Sub.same s O)⟩

/-! ### targets -/
/-- only the slots vs have changed -/
def Only' (vs : List Nat) (σ σ' : L2.St) : Prop := σ'.length = σ.length ∧ ∀ i, i ∉ vs → σ'[i]? = σ[i]?
theorem Only'.refl (σ : L2.St) : Only' [] σ σ := ⟨rfl, fun _ _ => rfl⟩
theorem Only'.trans {vs ws : List Nat} {σ σ1 σ2 : L2.St} (a : Only' vs σ σ1) (b : Only' ws σ1 σ2) : Only' (vs ++ ws) σ σ2 :=
  ⟨b.1.trans a.1, fun i h => (b.2 i fun z => h (List.mem_append_right _ z)).trans (a.2 i fun z => h (List.mem_append_left _ z))⟩
def tG (M M' : List Md) (ws : List Nat) (f : D → Env' → Option Env') : TG := fun v σ H Q => ∃ (ex : Option (Addr × D)) (g : Gr ex) (O : AS) (env : Env') (d : D), SR g.H0 g.O0 M O env σ H ∧ Rp H O d v ∧ match f d env with
  | some e => ∀ σ' H' O', Only' ws σ σ' → Same H H' → Sub H O H' O' → SR g.H0 g.O0 M' O' e σ' H' → O' = O → Q σ' H'
  | none => False
def tGs (M M' : List Md) (ws : List Nat) (f : List D → Env' → Option Env') : TGs := fun vs σ H Q => ∃ (ex : Option (Addr × D)) (g : Gr ex) (O : AS) (env : Env') (ds : List D), SR g.H0 g.O0 M O env σ H ∧ RpA H O ds vs ∧ match f ds env with
  | some e => ∀ σ' H' O', Only' ws σ σ' → Same H H' → Sub H O H' O' → SR g.H0 g.O0 M' O' e σ' H' → O' = O → Q σ' H'
  | none => False
def DG (X : Cx) (M M' : List Md) (ws : List Nat) (e : Expr) (f : D → Env' → Option Env') : Prop := PG X e (tG M M' ws f)
def DGs (X : Cx) (M M' : List Md) (ws : List Nat) (es : List Expr) (f : List D → Env' → Option Env') : Prop := PGs X es (tGs M M' ws f)
theorem pg_imp {X : Cx} {e : Expr} {t t' : TG} (h : PG X e t) (i : ∀ v σ H Q, t' v σ H Q → t v σ H Q) : PG X e t' := ⟨fun pins s σ H v u Q I r q => h.run pins s σ H v u Q I r (i v σ H Q q)⟩
theorem pgs_imp {X : Cx} {e : List Expr} {t t' : TGs} (h : PGs X e t) (i : ∀ v σ H Q, t' v σ H Q → t v σ H Q) : PGs X e t' := ⟨fun pins s σ H v u Q I r q => h.run pins s σ H v u Q I r (i v σ H Q q)⟩
def gN (i : Nat) : D → Env' → Option Env' := fun d env => some (env.set i (some d))
def gsN : List D → Env' → Option Env' := fun ds env => match ds with
  | [] => some env
  | _ => none
def gsC (f : D → Env' → Option Env') (fs : List D → Env' → Option Env') : List D → Env' → Option Env' := fun ds env => match ds with
  | d :: ds => (f d env).bind (fs ds)
  | [] => none
variable {f : D → Env' → Option Env'} {fs : List D → Env' → Option Env'} {es : List Expr} {ws ws' : List Nat}
theorem dg_nameG {i : Nat} {e : Expr} (h : PG X e (gName i)) : DG X M (M.set i .fz) [i] e (gN i) := pg_imp h fun v σ H Q ⟨ex, g, O, env, d, sr, r, q⟩ => q _ _ O ⟨by simp, fun j hj => by
  have ne : j ≠ i := fun z => hj (by simp [z])
  exact List.getElem?_set_ne (Ne.symm ne)⟩ (Same.refl _) (Sub.refl _ _) (sr.setF i r) rfl
theorem dg_name {i : Nat} {x : Str} (hN : X.N.Nodup) (hi : X.N[i]? = some x) (hx : Loc X.env.scope x) (hf : X.fn x = true ∨ X.env.scope.names.lookup x = some .local := by first | exact .inl rfl | exact .inr rfl | assumption) : DG X M (M.set i .fz) [i] (.Name x pos) (gN i) := dg_nameG (pg_name hN hi hx hf)
theorem dgs_nil : DGs X M M [] [] gsN := pgs_imp pgs_nil fun vs σ H Q ⟨ex, g, O, env, ds, sr, r, q⟩ => by
  cases r with
  | nil => exact ⟨rfl, q _ _ O (Only'.refl _) (Same.refl _) (Sub.refl _ _) sr rfl⟩
  | cons a b => exact q.elim
theorem dgs_cons (h1 : DG X M M' ws e f) (h2 : DGs X M' M'' ws' es fs) (hs : (assignEach (e :: es) X.env).map (·.2) = assign e X.env :: (assignEach es X.env).map (·.2) := by rfl) : DGs X M M'' (ws ++ ws') (e :: es) (gsC f fs) := pgs_imp (pgs_cons h1 h2 hs) fun vs σ H Q ⟨ex, g, O, env, ds, sr, r, q⟩ => by
  cases r with
  | nil => exact q.elim
  | cons a b =>
    refine ⟨_, _, rfl, ex, g, O, env, _, sr, a, ?_⟩
    unfold gsC at q
    simp only at q
    cases h : f _ env with
    | none => rw [h] at q; exact q
    | some e1 =>
      rw [h] at q
      exact fun σ' H' O' on sm s sr' eo => ⟨ex, g, O', e1, _, sr', b.mono s, by
        simp only [Option.bind_some] at q
        cases h2 : fs _ e1 with
        | none => rw [h2] at q; exact q
        | some e2 => rw [h2] at q; exact fun σ2 H2 O2 on2 sm2 s2 sr2 eo2 => q σ2 H2 O2 (on.trans on2) (sm.trans sm2) (s.trans s2) sr2 (eo2.trans eo)⟩
def gT' (n : Nat) (f : List D → Env' → Option Env') : D → Env' → Option Env' := fun d env => match d with
  | .tuple ds => if ds.length = n then f ds env else none
  | _ => none
theorem dg_tup {kk n : Nat} (hc : X.calm = true) (h : DGs X M M' ws es fs) (hn : (assignEach es X.env).length = n := by rfl) (hst : (assignEach es X.env).findIdx? (·.1) = none := by rfl) : DG X M M' ws (.Tuple es kk pos) (gT' n fs) := pg_imp (pg_tup hc h hn hst) fun v σ H Q ⟨ex, g, O, env, d, sr, r, q⟩ => by
  cases d <;> simp only [gT'] at q
  case tuple ds =>
    cases r with
    | tup h1 h2 h3 =>
      by_cases hl : ds.length = n
      · rw [if_pos hl] at q
        exact ⟨_, _, rfl, Rd.seqT h2, by rw [← h3.length]; exact hl, ex, g, O, env, ds, sr, h3, q⟩
      · rw [if_neg hl] at q
        exact q.elim
/-! ### assignment -/
def oAsg (m : Env' → Res D) (f : D → Env' → Option Env') : Env' → Out := fun env => exOut (m env) env fun d => match f d env with
  | some e => .nx e
  | none => .err
theorem ds_asg {tg e : Expr} (hx : mle M L.Mx = true) (he : DE X G M .pl e m) (hg : DG X M M' ws tg f) (hs : swapsWithSole [tg] e pos.line X.env = pure false := by rfl) (hw : swappedStores [tg] e X.env = pure none := by rfl) (h1 : (assignEach [tg] X.env).map (·.2) = [assign tg X.env] := by rfl) : DS X G L M M' (.Assign [tg] e pos) (oAsg m f) :=
  ps_imp (ps_asg he hg hs hw h1) fun E σ H h => by
    obtain ⟨g, O, env, sr, q⟩ := tS_iff.mp h
    refine tE_go sr hx q fun d q H' v s r => ⟨_, g, O, env, d, sr.grow s, r, ?_⟩
    cases h1 : f d env with
    | none => rw [h1] at q; exact q
    | some e1 => rw [h1] at q; exact fun σ2 H2 O2 _ _ s2 sr2 _ => q σ2 H2 O2 ((Sub.same s O).trans s2) sr2
/-- name = a new object -/
def oSet (i : Nat) (m : Env' → Res D) : Env' → Out := fun env => exOut (m env) env fun d => .nx (env.set i (some d))
theorem ds_setG {i : Nat} {st : Stmt} (hx : mle M L.Mx = true) (hp : ∀ te, PE X e te → PS X st (tAsg te (gName i))) (he : DE X G M .fr e m) : DS X G L M (M.set i .ow) st (oSet i m) := ps_imp (hp _ he) fun E σ H h => by
  obtain ⟨g, O, env, sr, q⟩ := tS_iff.mp h
  refine tE_go sr hx q fun d q H' v s r => ?_
  obtain ⟨p, rfl, n, r⟩ := r
  obtain ⟨sub, sr'⟩ := sr.setO i s n r
  exact q _ _ _ sub sr'
theorem ds_setO {i : Nat} {x : Str} {pos' : Pos} (hx : mle M L.Mx = true) (hN : X.N.Nodup) (hi : X.N[i]? = some x) (hl : Loc X.env.scope x) (he : DE X G M .fr e m) (hs : swapsWith e (some (.Name x pos')) pos.line X.env = pure false := by rfl)
    (hf : X.fn x = true ∨ X.env.scope.names.lookup x = some .local := by first | exact .inl rfl | exact .inr rfl | assumption) : DS X G L M (M.set i .ow) (.Assign [.Name x pos'] e pos) (oSet i m) := ds_setG hx (fun te h => ps_set hN hi hl h hs hf) he
theorem ds_setP {i : Nat} {st : Stmt} (hx : mle M L.Mx = true) (hp : ∀ te, PE X e te → PS X st (tAsg te (gName i))) (he : DE X G M .pl e m) : DS X G L M (M.set i .fz) st (oSet i m) := ps_imp (hp _ he) fun E σ H h => by
  obtain ⟨g, O, env, sr, q⟩ := tS_iff.mp h
  exact tE_go sr hx q fun d q H' v s r => q _ _ O (Sub.same s O) ((sr.grow s).setF i r)
theorem ds_set {i : Nat} {x : Str} {pos' : Pos} (hx : mle M L.Mx = true) (hN : X.N.Nodup) (hi : X.N[i]? = some x) (hl : Loc X.env.scope x) (he : DE X G M .pl e m) (hs : swapsWith e (some (.Name x pos')) pos.line X.env = pure false := by rfl)
    (hf : X.fn x = true ∨ X.env.scope.names.lookup x = some .local := by first | exact .inl rfl | exact .inr rfl | assumption) : DS X G L M (M.set i .fz) (.Assign [.Name x pos'] e pos) (oSet i m) := ds_setP hx (fun te h => ps_set hN hi hl h hs hf) he
/-- name op= e, ints and texts -/
def I2 (r : TIp) (f : D → D → Option D) : Prop := ∀ {H : Hp} {O : AS} {x y : V} {dx dy d : D} {Q : VK}, Trk H O → Rp H O dx x → Rp H O dy y → f dx dy = some d → (∀ H' v, Same H H' → Rp H' O d v → Q v H') → r x y H Q
def oAug (i : Nat) (f : D → D → Option D) (m : Env' → Res D) : Env' → Out := fun env => exOut (mVar i env) env fun x => exOut (m env) env fun y => match f x y with
  | some d => .nx (env.set i (some d))
  | none => .err
theorem ds_augG {i : Nat} {st : Stmt} {ti : TIp} {fo : D → D → Option D} (hx : mle M L.Mx = true) (hi : M[i]? = some .fz) (hp : ∀ te, PE X e te → PS X st (tAug i te ti)) (hI : I2 ti fo) (he : DE X G M .pl e m) : DS X G L M (M.set i .fz) st (oAug i fo m) := ps_imp (hp _ he) fun E σ H h => by
  obtain ⟨g, O, env, sr, q⟩ := tS_iff.mp h
  unfold oAug mVar at q
  cases e1 : env[i]? with
  | none => rw [e1] at q; exact q.elim
  | some o =>
    cases o with
    | none => rw [e1] at q; exact q.elim
    | some x =>
      rw [e1] at q
      obtain ⟨v, ev, r⟩ := sr.fz i x hi e1
      refine ⟨v, ev, tE_go sr hx q fun y q H1 w s r1 => ?_⟩
      cases hf : fo x y with
      | none => rw [hf] at q; exact q.elim
      | some d =>
        rw [hf] at q
        exact hI (Trk.grow sr.tr s) (r.mono (Sub.same s O)) r1 hf fun H' z s' r' => q _ _ O (Sub.same (s.trans s') O) ((sr.grow (s.trans s')).setF i r')
theorem Rp.int_inv {H : Hp} {O : AS} {i : Int} {v : V} (r : Rp H O (.int i) v) : v = .int i := Rc.int_inv (.of r)
theorem i2_add : I2 (ipI fun i j => i + j) (fun x y => match x, y with | .int i, .int j => some (.int (i + j)) | _, _ => none) := by
  intro H O x y dx dy d Q tr rx ry hf q
  cases dx <;> cases dy <;> simp only at hf <;> try cases hf
  cases rx.int_inv; cases ry.int_inv
  exact ⟨_, _, rfl, rfl, q H _ (Same.refl H) (.int _)⟩
theorem i2_sub : I2 (ipI fun i j => i - j) subD := by
  intro H O x y dx dy d Q tr rx ry hf q
  cases dx <;> cases dy <;> simp only [subD] at hf <;> try cases hf
  cases rx.int_inv; cases ry.int_inv
  exact ⟨_, _, rfl, rfl, q H _ (Same.refl H) (.int _)⟩
/-! ### methods of an owned list, as statements -/
def oMut (i : Nat) (f : D → List D → Option D) (ms : Env' → Res (List D)) : Env' → Out := fun env => exOut (mVar i env) env fun _ => exOut (ms env) env fun ds => match env[i]? with
  | some (some x) => match f x ds with
    | some d => .nx (env.set i (some d))
    | none => .err
  | _ => .err
/-- a statement that writes the object of slot i: at p it is d, behind it d' -/
def MutR (r : V → List V → Hp → VK → Prop) (f : D → List D → Option D) : Prop := ∀ {H : Hp} {O : AS} {p : Addr} {vs : List V} {dx : D} {ds : List D} {d : D} {Q : VK}, Rt H O dx p → RpA H O ds vs → f dx ds = some d →
  (∀ o, Mut (some o) → Rt (upd H p o) O d p → O p → Q .non (upd H p o)) → O p → r (.ref p) vs H Q
end
end DL

namespace DL
open PySem PySem.Spec L2
section
variable {X : Cx} {G : Gd} {L : Lp} {M M' M'' : List Md} {k ka kb : Kd} {a b e : Expr} {m ma mb : Env' → Res D} {ms : Env' → Res (List D)} {nc : Env' → Res Bool} {pos : Pos} {st : Stmt} {sts : List Stmt} {o o1 o2 : Env' → Out} {t : TA}
variable {f : D → Env' → Option Env'} {ws : List Nat}

/-! ### an owned list is written -/
theorem Rt.list_inv {H : Hp} {O : AS} {ds : List D} {p : Addr} (r : Rt H O (.list ds) p) : ∃ xs, H p = some (.lst xs) ∧ RpA H O ds xs := by
  cases r with | lst e q => exact ⟨_, e, q⟩
theorem tyV_list {K : PySem.W.Frag} {H : Hp} {p : Addr} {xs : List V} (e : H p = some (.lst xs)) : tyV K "list" (.ref p) H := .inl ⟨rfl, xs, SqL.of e⟩
/-- the items behind the method, by the items and the arguments -/
def LM (r : V → List V → Hp → VK → Prop) (fl : List D → List D → Option (List D)) : Prop := ∀ {H : Hp} {O : AS} {p : Addr} {xs vs : List V} {is ds js : List D} {Q : VK}, H p = some (.lst xs) → RpA H O is xs → RpA H O ds vs → ¬ (∃ q ∈ vs, q = .ref p) → fl is ds = some js →
  (∀ ys, RpA H O js ys → Q .non (upd H p (.lst ys))) → r (.ref p) vs H Q
def oLM (i : Nat) (fl : List D → List D → Option (List D)) (ms : Env' → Res (List D)) : Env' → Out := fun env => match env[i]? with
  | some (some (.list is)) => exOut (ms env) env fun ds => match fl is ds with
    | some js => .nx (env.set i (some (.list js)))
    | none => .err
  | _ => .err
theorem RpA.not_ref {H : Hp} {O : AS} {p : Addr} (ho : O p) : ∀ {ds : List D} {vs : List V}, RpA H O ds vs → ¬ (∃ q ∈ vs, q = .ref p)
  | _, _, .nil => fun ⟨q, h, _⟩ => nomatch h
  | _, _, .cons a b => fun ⟨q, h, e⟩ => by
    rcases List.mem_cons.mp h with z | z
    · subst z; subst e
      cases a with
      | lst h1 _ _ => exact h1 ho
      | tup h1 _ _ => exact h1 ho
      | dK h1 _ _ => exact h1 ho
      | dT h1 _ _ => exact h1 ho
    · exact RpA.not_ref ho b ⟨q, z, e⟩
theorem ds_lm {i : Nat} {st : Stmt} {r : V → List V → Hp → VK → Prop} {fl : List D → List D → Option (List D)} {es : List Expr} (hx : mle M L.Mx = true) (hi : M[i]? = some .ow) (hr : LM r fl) (ha : DA X G M .pl es ms)
    (hp : ∀ t, PA X es t → PS X st (tDrop (tBM X.K "list" r (tVar i) t))) : DS X G L M M st (oLM i fl ms) := ps_imp (hp _ ha) fun E σ H h => by
  obtain ⟨g, O, env, sr, q⟩ := tS_iff.mp h
  unfold oLM at q
  cases e1 : env[i]? with
  | none => rw [e1] at q; exact q.elim
  | some x =>
    cases x with
    | none => rw [e1] at q; exact q.elim
    | some x =>
      rw [e1] at q
      cases x with
      | list is =>
        obtain ⟨p, ev, op, np, rt⟩ := sr.ow i _ hi e1
        obtain ⟨xs, hp, rx⟩ := rt.list_inv
        refine ⟨_, ev, tyV_list hp, g, O, env, sr, ?_⟩
        simp only at q
        cases h1 : ms env with
        | err => rw [h1] at q; exact q
        | exc c d =>
          rw [h1] at q
          exact fun H' dd cls va s h1 h2 h3 => q σ H' O dd cls va (Sub.same s O) ((sr.grow s).weak hx) h1 h2 h3
        | ok ds =>
          rw [h1, exOut_ok] at q
          intro H1 vs s1 r1
          have r1 : RpA H1 O ds vs := r1
          cases h2 : fl is ds with
          | none => rw [h2] at q; exact q.elim
          | some js =>
            rw [h2] at q
            refine hr (s1 _ _ hp) (rx.mono (Sub.same s1 O)) r1 (r1.not_ref op) h2 fun ys ry => ?_
            obtain ⟨sub, sr'⟩ := (sr.grow s1).write i hi e1 ev (o := .lst ys) trivial (.lst upd_same (ry.mono (Sub.upd op)))
            exact q σ _ O ((Sub.same s1 O).trans sub) sr'
      | _ => exact q.elim
/-- xs.append(e) -/
def lApp : List D → List D → Option (List D) := fun is ds => match ds with
  | [d] => if is.length < sizeLine then some (is ++ [d]) else none
  | _ => none
theorem lm_append : LM rAppend lApp := by
  intro H O p xs vs is ds js Q hp rx rv _ hf q
  unfold lApp at hf
  split at hf
  · split at hf
    · rename_i hz
      cases hf
      cases rv with | cons a b =>
        cases b
        exact ⟨p, xs, _, rfl, rfl, hp, by rw [← rx.length]; exact hz, q _ (rx.append (.cons a .nil))⟩
    · cases hf
  · cases hf
theorem ds_append {i : Nat} {recv arg : Expr} {apos cpos spos : Pos} (hx : mle M L.Mx = true) (hi : M[i]? = some .ow) (hr : PE X recv (tVar i)) (ha : DE X G M .pl arg m)
    (hbase : attributeBase recv "append" X.env (eval recv X.env) = eval recv X.env := by rfl)
    (hfew : ((backTo cpos (starEach [arg] X.env)).all (fun x => !x.1) && (backToKw cpos (keywordEach [] X.env)).all (fun x => x.1.isSome)
      && decide ([arg].length + ([] : List Keyword).length + (if ([] : List Keyword).isEmpty then 0 else 1) < 30)) = true := by rfl)
    (hline : (apos.endLine == cpos.line) = true := by rfl) (hs : starEach [arg] X.env = [(false, eval arg X.env)] := by rfl)
    (hsw : swapsWith (.Call (.Attribute recv "append" apos) [arg] [] cpos) none spos.line X.env = pure false := by rfl) :
    DS X G L M M (.Expr (.Call (.Attribute recv "append" apos) [arg] [] cpos) spos) (oLM i lApp (aCons m aNil)) :=
  ds_lm hx hi lm_append (da_cons ha da_nil hs) fun t h => ps_expr (pe_bm PySem.F.plainAttrs_list PySem.F.slot_list_append PySem.F.type_list_append mt_append hr h hbase hfew hline hs) hsw
/-- xs.extend(ys), ys a list -/
def rExt2 : V → List V → Hp → VK → Prop := fun x vs H Q => ∃ l b xs zs, x = .ref l ∧ vs = [.ref b] ∧ H l = some (.lst xs) ∧ L2.Rd H b (.lst zs) ∧ xs.length + zs.length ≤ sizeLine ∧ Q .non (upd H l (.lst (xs ++ zs)))
theorem mt_ext2 : MtM X "list.extend" rExt2 := by
  intro pins s σ H x vs v us Q I rx rv h
  obtain ⟨l, b, xs, zs, rfl, rfl, hH, hB, hz, q⟩ := h
  cases rx
  obtain ⟨u, rfl, ru⟩ := rv.one
  cases ru
  obtain ⟨z, its, n, r, hl, e⟩ := I.lstM hH
  obtain ⟨z2, its2, n2, r2, e2⟩ := hB.ok I.hok
  have hl2 := r2.length
  have hsz : its.toArray.size + its2.toArray.size ≤ sizeLine := by rw [List.size_toArray, List.size_toArray]; omega
  have hlong : ¬ (!its.toArray.isEmpty && Builtin.List.listTooLong (its.toArray.size + its2.toArray.size)) = true := by
    rw [notLongL hsz, Bool.and_false]
    exact Bool.false_ne_true
  refine PySem.call_meets PySem.F.slot_list_extend ⟨_, e, rfl⟩ PySem.F.entry_list_extend (PySem.F.args_list_extend_2 _ _)
    (AutoSeq1.list_extend_list_list_0 l its.toArray n b its2.toArray n2 hlong (by first | omega | (rw [List.size_toArray]; omega) | (simp only [List.size_toArray] at *; omega)) (by first | omega | (rw [List.size_toArray]; omega) | (simp only [List.size_toArray] at *; omega))) ⟨e, e2, ?_⟩
  refine ⟨.non, _, I.lset (its' := its ++ its2) hH e (by simp) (r.append r2) ?_, rfl, q⟩
  rw [List.length_append]
  omega
def lExt : List D → List D → Option (List D) := fun is ds => match ds with
  | [.list js] => if is.length + js.length ≤ sizeLine then some (is ++ js) else none
  | _ => none
theorem lm_extend : LM rExt2 lExt := by
  intro H O p xs vs is ds js Q hp rx rv _ hf q
  unfold lExt at hf
  split at hf
  · split at hf
    · rename_i hz
      cases hf
      cases rv with | cons a b =>
        cases b
        cases a with | lst h1 h2 h3 =>
          exact ⟨p, _, xs, _, rfl, rfl, hp, h2, by rw [← rx.length, ← h3.length]; exact hz, q _ (rx.append h3)⟩
    · cases hf
  · cases hf
theorem ds_extend {i : Nat} {recv arg : Expr} {apos cpos spos : Pos} (hx : mle M L.Mx = true) (hi : M[i]? = some .ow) (hr : PE X recv (tVar i)) (ha : DE X G M .pl arg m)
    (hbase : attributeBase recv "extend" X.env (eval recv X.env) = eval recv X.env := by rfl)
    (hfew : ((backTo cpos (starEach [arg] X.env)).all (fun x => !x.1) && (backToKw cpos (keywordEach [] X.env)).all (fun x => x.1.isSome)
      && decide ([arg].length + ([] : List Keyword).length + (if ([] : List Keyword).isEmpty then 0 else 1) < 30)) = true := by rfl)
    (hline : (apos.endLine == cpos.line) = true := by rfl) (hs : starEach [arg] X.env = [(false, eval arg X.env)] := by rfl)
    (hsw : swapsWith (.Call (.Attribute recv "extend" apos) [arg] [] cpos) none spos.line X.env = pure false := by rfl) :
    DS X G L M M (.Expr (.Call (.Attribute recv "extend" apos) [arg] [] cpos) spos) (oLM i lExt (aCons m aNil)) :=
  ds_lm hx hi lm_extend (da_cons ha da_nil hs) fun t h => ps_expr (pe_bm PySem.F.plainAttrs_list PySem.F.slot_list_extend PySem.F.type_list_extend mt_ext2 hr h hbase hfew hline hs) hsw
/-- target = xs.pop() -/
def oPop (i : Nat) (f : D → Env' → Option Env') : Env' → Out := fun env => match env[i]? with
  | some (some (.list is)) => match is[is.length - 1]? with
    | some d => match f d (env.set i (some (.list is.dropLast))) with
      | some e => .nx e
      | none => .err
    | none => .err
  | _ => .err
theorem RpA.dropLast {H : Hp} {O : AS} {ds : List D} {vs : List V} (r : RpA H O ds vs) : RpA H O ds.dropLast vs.dropLast := by
  rw [List.dropLast_eq_take, List.dropLast_eq_take, r.length]
  exact r.take _
theorem ds_pop {i : Nat} {recv tg : Expr} {apos cpos : Pos} (hx : mle M L.Mx = true) (hi : M[i]? = some .ow) (hr : PE X recv (tVar i)) (hg : DG X M M' ws tg f)
    (hbase : attributeBase recv "pop" X.env (eval recv X.env) = eval recv X.env := by rfl) (hline : (apos.endLine == cpos.line) = true := by rfl)
    (hs : swapsWithSole [tg] (.Call (.Attribute recv "pop" apos) [] [] cpos) pos.line X.env = pure false := by rfl) (hw : swappedStores [tg] (.Call (.Attribute recv "pop" apos) [] [] cpos) X.env = pure none := by rfl) (h1 : (assignEach [tg] X.env).map (·.2) = [assign tg X.env] := by rfl) :
    DS X G L M M' (.Assign [tg] (.Call (.Attribute recv "pop" apos) [] [] cpos) pos) (oPop i f) :=
  ps_imp (ps_asg (pe_bm0 PySem.F.plainAttrs_list PySem.F.slot_list_pop PySem.F.type_list_pop mt_pop hr hbase hline) hg hs hw h1) fun E σ H h => by
    obtain ⟨g, O, env, sr, q⟩ := tS_iff.mp h
    unfold oPop at q
    cases e1 : env[i]? with
    | none => rw [e1] at q; exact q.elim
    | some x =>
      cases x with
      | none => rw [e1] at q; exact q.elim
      | some x =>
        rw [e1] at q
        cases x with
        | list is =>
          obtain ⟨p, ev, op, np, rt⟩ := sr.ow i _ hi e1
          obtain ⟨xs, hp, rx⟩ := rt.list_inv
          simp only at q
          cases h2 : is[is.length - 1]? with
          | none => rw [h2] at q; exact q.elim
          | some d =>
            rw [h2] at q
            simp only at q
            have h2' : is[xs.length - 1]? = some d := by rw [← rx.length]; exact h2
            obtain ⟨v, hv, rv⟩ := rx.get h2'
            refine ⟨_, ev, tyV_list hp, p, xs, v, rfl, rfl, hp, hv, ?_⟩
            obtain ⟨sub, sr'⟩ := sr.write i hi e1 ev (o := .lst xs.dropLast) trivial (.lst upd_same (rx.dropLast.mono (Sub.upd op)))
            refine ⟨_, g, O, _, d, sr', rv.mono sub, ?_⟩
            cases h3 : f d (env.set i (some (.list is.dropLast))) with
            | none => rw [h3] at q; exact q
            | some e => rw [h3] at q; exact fun σ2 H2 O2 _ _ s2 sr2 _ => q σ2 H2 O2 (sub.trans s2) sr2
        | _ => exact q.elim
/-- xs[i] = e, xs an owned list -/
def oPut (i : Nat) (mi m : Env' → Res D) : Env' → Out := fun env => exOut (m env) env fun d => match env[i]? with
  | some (some (.list is)) => exOut (mi env) env fun j => match j with
    | .int j => match ixN is.length j with
      | some n => .nx (env.set i (some (.list (is.set n d))))
      | none => .err
    | _ => .err
  | _ => .err
theorem ds_put {i : Nat} {recv ix val : Expr} {p2 : Pos} {mi : Env' → Res D} (hx : mle M L.Mx = true) (hi : M[i]? = some .ow) (hr : PE X recv (tVar i)) (hix : DE X G M ka ix mi) (hv : DE X G M .pl val m)
    (hg : ∀ to ti, PE X recv to → PE X ix ti → PG X (.Subscript recv ix p2) (gSub to ti rSetL)) (hs : swapsWithSole [.Subscript recv ix p2] val pos.line X.env = pure false := by rfl) (hw : swappedStores [.Subscript recv ix p2] val X.env = pure none := by rfl)
    (h1 : (assignEach [.Subscript recv ix p2] X.env).map (·.2) = [assign (.Subscript recv ix p2) X.env] := by rfl) : DS X G L M M (.Assign [.Subscript recv ix p2] val pos) (oPut i mi m) :=
  ps_imp (ps_asg hv (hg _ _ hr hix.co) hs hw h1) fun E σ H h => by
    obtain ⟨g, O, env, sr, q⟩ := tS_iff.mp h
    refine tE_go sr hx q fun d q H' v s r => ?_
    cases e1 : env[i]? with
    | none => rw [e1] at q; exact q.elim
    | some x =>
      cases x with
      | none => rw [e1] at q; exact q.elim
      | some x =>
        rw [e1] at q
        cases x with
        | list is =>
          obtain ⟨p, ev, op, np, rt⟩ := sr.ow i _ hi e1
          obtain ⟨xs, hp, rx⟩ := rt.list_inv
          refine ⟨_, ev, tE_go (sr.grow s) hx (OutOk.sub (Sub.same s O) q) fun j q H2 w s2 rw2 => ?_⟩
          cases j with
          | int j =>
            simp only at q
            cases rw2.int_inv
            cases h2 : ixN is.length j with
            | none => rw [h2] at q; exact q.elim
            | some n =>
              rw [h2] at q
              have h2' := h2
              rw [rx.length] at h2'
              have ss := s.trans s2
              refine ⟨p, xs, j, n, rfl, rfl, ss _ _ hp, h2', ?_⟩
              obtain ⟨sub, sr'⟩ := (sr.grow ss).write i hi e1 ev (o := .lst (xs.set n v)) trivial (.lst upd_same (((rx.mono (Sub.same ss O)).set (r.mono (Sub.same s2 O)) n).mono (Sub.upd op)))
              exact q σ _ O ((Sub.same s2 O).trans sub) sr'
          | _ => exact q.elim
        | _ => exact q.elim
end
end DL

namespace DL
open PySem PySem.Spec L2
/-! ### what is walked -/
def ItOk (J : It) (ds : List D) (O : AS) (H1 : Hp) : Prop := ∀ (H : Hp) (O' : AS) (i : Nat), Sub H1 O H O' → Trk H O' →
  (i < ds.length → J.go i H ∧ ∀ x H', J.yld i H x H' → Same H H' ∧ ∃ d, ds[i]? = some d ∧ Rp H' O' d x) ∧ (ds.length ≤ i → J.stop i H)
def tI (G : Gd) (M : List Md) (mi : Env' → Res (List D)) : TI := fun σ H R => ∃ (g : Gr G.ex) (O : AS) (env : Env'), SR g.H0 g.O0 M O env σ H ∧ match mi env with
  | .ok ds => ∀ J H1, Same H H1 → ItOk J ds O H1 → R J H1
  | .exc c d => XW G O σ H c d
  | .err => False
def DI (X : Cx) (G : Gd) (M : List Md) (tg iter : Expr) (mi : Env' → Res (List D)) : Prop := PI X tg iter (tI G M mi)
section
variable {X : Cx} {G : Gd} {L : Lp} {M M' Mt : List Md} {k ka kb : Kd} {a b e tg iter : Expr} {m ma mb : Env' → Res D} {ms mi : Env' → Res (List D)} {nc : Env' → Res Bool} {pos : Pos} {st : Stmt} {sts body : List Stmt} {o o1 o2 : Env' → Out} {f : D → Env' → Option Env'} {ws : List Nat}
theorem pi_imp {t t' : TI} (h : PI X tg iter t) (i : ∀ σ H R, t' σ H R → t σ H R) : PI X tg iter t' := ⟨fun pins s σ H R I q => h.run pins s σ H R I (i σ H R q)⟩
theorem PI.or {t t' : TI} (h : PI X tg iter t) (h' : PI X tg iter t') : PI X tg iter (fun σ H R => t σ H R ∨ t' σ H R) := ⟨fun pins s σ H R I q => q.elim (h.run pins s σ H R I) (h'.run pins s σ H R I)⟩
/-- what is walked over data: lists, tuples, texts -/
def walkD : D → Res (List D)
  | .list ds => .ok ds
  | .tuple ds => .ok ds
  | .str x => .ok (x.cps.toList.map fun c => .str ⟨#[c]⟩)
  | _ => .err
def iSeq (m : Env' → Res D) : Env' → Res (List D) := fun env => (m env).bind walkD
theorem itOk_list {K : PySem.W.Frag} {H1 : Hp} {O : AS} {p : Addr} {xs : List V} {ds : List D} (ho : ¬ O p) (e : L2.Rd H1 p (.lst xs)) (r : RpA H1 O ds xs) : ItOk (Itl K p) ds O H1 := fun H O' i s tr => by
  obtain ⟨e', ho'⟩ := s.1 p _ ho e
  have r' := r.mono s
  refine ⟨fun hi => ?_, fun hi => ⟨xs, Rd.seqL e', by rw [← r.length]; exact hi⟩⟩
  obtain ⟨v, hv, rv⟩ := r'.get (List.getElem?_eq_getElem hi)
  refine ⟨⟨xs, v, Rd.seqL e', hv⟩, fun x H' y => ?_⟩
  obtain ⟨rfl, y⟩ := y
  have := y xs (Rd.seqL e')
  rw [hv] at this
  cases this
  exact ⟨Same.refl _, _, List.getElem?_eq_getElem hi, rv⟩
theorem itOk_tup {K : PySem.W.Frag} {H1 : Hp} {O : AS} {p : Addr} {xs : List V} {ds : List D} (ho : ¬ O p) (e : L2.Rd H1 p (.tup xs)) (r : RpA H1 O ds xs) : ItOk (Itt K p) ds O H1 := fun H O' i s tr => by
  obtain ⟨e', ho'⟩ := s.1 p _ ho e
  have r' := r.mono s
  refine ⟨fun hi => ?_, fun hi => ⟨xs, Rd.seqT e', by rw [← r.length]; exact hi⟩⟩
  obtain ⟨v, hv, rv⟩ := r'.get (List.getElem?_eq_getElem hi)
  refine ⟨⟨xs, v, Rd.seqT e', hv⟩, fun x H' y => ?_⟩
  obtain ⟨rfl, y⟩ := y
  have := y xs (Rd.seqT e')
  rw [hv] at this
  cases this
  exact ⟨Same.refl _, _, List.getElem?_eq_getElem hi, rv⟩
theorem itOk_str {H1 : Hp} {O : AS} {x : Str} : ItOk (Its x) (x.cps.toList.map fun c => .str ⟨#[c]⟩) O H1 := fun H O' i s tr => by
  refine ⟨fun hi => ?_, fun hi => by simpa [Its] using hi⟩
  have hi' : i < x.cps.size := by simpa using hi
  refine ⟨hi', fun y H' ⟨e, c, hc, hy⟩ => ?_⟩
  subst e hy
  refine ⟨Same.refl _, .str ⟨#[c]⟩, ?_, .str _⟩
  simp [← hc]
theorem itOk_range {H1 : Hp} {O : AS} {lo : Int} {n : Nat} : ItOk (Itr lo n) ((List.range n).map fun (i : Nat) => PyData.int (lo + i)) O H1 := fun H O' i s tr => by
  refine ⟨fun hi => ?_, fun hi => by simpa [Itr] using hi⟩
  have hi' : i < n := by simpa using hi
  refine ⟨hi', fun y H' ⟨e, hy⟩ => ?_⟩
  subst e hy
  exact ⟨Same.refl _, .int (lo + i), by simp [hi'], .int _⟩
theorem di_seq (he : DE X G M .pl e m) : DI X G M tg e (iSeq m) := pi_imp (PI.or (pi_list he) (PI.or (pi_tup he) (pi_str he))) fun σ H R ⟨g, O, env, sr, q⟩ => by
  have key : ∀ (T : TE → TI) (_ : T = iList X.K ∨ T = iTup X.K ∨ T = iStr), True := fun _ _ => trivial
  unfold iSeq at q
  cases h : m env with
  | err => rw [h] at q; exact q.elim
  | exc c d =>
    rw [h] at q
    refine .inl ⟨g, O, env, sr, ?_⟩
    rw [h]; exact q
  | ok d =>
    rw [h, Res.bind_ok] at q
    cases d <;> simp only [walkD] at q
    case list ds =>
      refine .inl ⟨g, O, env, sr, ?_⟩
      rw [h]
      intro H1 v s r
      have r : Rp H1 O (.list ds) v := r
      cases r with
      | lst h1 h2 h3 => exact ⟨_, rfl, ⟨_, Rd.seqL h2⟩, q _ _ s (itOk_list h1 h2 h3)⟩
    case tuple ds =>
      refine .inr (.inl ⟨g, O, env, sr, ?_⟩)
      rw [h]
      intro H1 v s r
      have r : Rp H1 O (.tuple ds) v := r
      cases r with
      | tup h1 h2 h3 => exact ⟨_, rfl, ⟨_, Rd.seqT h2⟩, q _ _ s (itOk_tup h1 h2 h3)⟩
    case str x =>
      refine .inr (.inr ⟨g, O, env, sr, ?_⟩)
      rw [h]
      intro H1 v s r
      have r : Rp H1 O (.str x) v := r
      cases r
      exact ⟨_, rfl, q _ _ s itOk_str⟩
def small62 (i : Int) : Prop := -(2 ^ 62) ≤ i ∧ i < 2 ^ 62
instance (i : Int) : Decidable (small62 i) := by unfold small62; exact inferInstance
def rng (lo : Int) (n : Nat) : List D := (List.range n).map fun (i : Nat) => PyData.int (lo + i)
def rangeD : List D → Res (List D)
  | [.int j] => if small62 j then .ok (rng 0 j.toNat) else .err
  | [.int i, .int j] => if small62 i ∧ small62 j then .ok (rng i (j - i).toNat) else .err
  | _ => .err
def iRange (ms : Env' → Res (List D)) : Env' → Res (List D) := fun env => (ms env).bind rangeD
theorem di_range1 {p : Pos} (hg : Gl X "range") (hm : X.mg "range" = none) (ha : DE X G M k a m) (hs : starEach [a] X.env = [(false, eval a X.env)] := by rfl) : DI X G M tg (.Call (.Name "range" p) [a] [] pos) (iRange (aCons m aNil)) :=
  pi_imp (pi_range1 hg hm (da_consC (G := G) (M := M) ha da_nil hs) hs) fun σ H R ⟨g, O, env, sr, q⟩ => by
    refine ⟨g, O, env, sr, ?_⟩
    unfold iRange at q
    cases h : aCons m aNil env with
    | err => rw [h] at q; exact q
    | exc c d => rw [h] at q; exact q
    | ok ds =>
      rw [h, Res.bind_ok] at q
      have hl : ∃ d, ds = [d] := by
        unfold aCons aNil at h
        cases h2 : m env with
        | ok d => rw [h2] at h; cases h; exact ⟨d, rfl⟩
        | exc c d => rw [h2] at h; cases h
        | err => rw [h2] at h; cases h
      obtain ⟨d, rfl⟩ := hl
      intro H1 vs s r
      obtain ⟨v, rfl, r1⟩ := RcA.one r
      cases d <;> simp only [rangeD] at q
      case int j =>
        cases r1.int_inv
        by_cases hj : small62 j
        · rw [if_pos hj] at q
          exact ⟨j, rfl, hj.1, hj.2, q _ _ s (by have := @itOk_range H1 O 0 j.toNat; exact this)⟩
        · rw [if_neg hj] at q; exact q.elim
      all_goals exact q.elim
theorem di_range2 {p : Pos} (hg : Gl X "range") (hm : X.mg "range" = none) (ha : DE X G M ka a ma) (hb : DE X G M kb b mb) (hs : starEach [a, b] X.env = [(false, eval a X.env), (false, eval b X.env)] := by rfl) (hs2 : starEach [b] X.env = [(false, eval b X.env)] := by rfl) : DI X G M tg (.Call (.Name "range" p) [a, b] [] pos) (iRange (aCons ma (aCons mb aNil))) :=
  pi_imp (pi_range2 hg hm (da_consC (G := G) (M := M) ha (da_consC hb da_nil hs2) (by rw [hs, hs2])) hs hs2) fun σ H R ⟨g, O, env, sr, q⟩ => by
    refine ⟨g, O, env, sr, ?_⟩
    unfold iRange at q
    cases h : aCons ma (aCons mb aNil) env with
    | err => rw [h] at q; exact q
    | exc c d => rw [h] at q; exact q
    | ok ds =>
      rw [h, Res.bind_ok] at q
      have hl : ∃ d d2, ds = [d, d2] := by
        unfold aCons aNil at h
        cases h2 : ma env with
        | ok d =>
          cases h3 : mb env with
          | ok d2 => rw [h2, h3] at h; cases h; exact ⟨d, d2, rfl⟩
          | exc c d => rw [h2, h3] at h; cases h
          | err => rw [h2, h3] at h; cases h
        | exc c d => rw [h2] at h; cases h
        | err => rw [h2] at h; cases h
      obtain ⟨d, d2, rfl⟩ := hl
      intro H1 vs s r
      obtain ⟨v, w, rfl, r1, r2⟩ := RcA.two r
      cases d <;> try exact q.elim
      cases d2 <;> try exact q.elim
      case int.int i j =>
        cases r1.int_inv; cases r2.int_inv
        simp only [rangeD] at q
        by_cases hj : small62 i ∧ small62 j
        · rw [if_pos hj] at q
          exact ⟨i, j, rfl, ⟨hj.1.1, hj.1.2, hj.2.1, hj.2.2⟩, q _ _ s itOk_range⟩
        · rw [if_neg hj] at q; exact q.elim

/-! ### for -/
def loop (f : D → Env' → Option Env') (body : Env' → Out) : List D → Env' → Out
  | [], env => .nx env
  | d :: ds, env => match f d env with
    | none => .err
    | some e1 => match body e1 with
      | .nx e2 => loop f body ds e2
      | .ct e2 => loop f body ds e2
      | .bk e2 => .nx e2
      | x => x
def oFor (mi : Env' → Res (List D)) (f : D → Env' → Option Env') (body : Env' → Out) : Env' → Out := fun env => exOut (mi env) env fun ds => loop f body ds env
theorem ds_for (hx : mle M L.Mx = true) (hp : PassesOwn (model X.prog X.w) X.A X.env X.xe) (hc : X.calm = true) (hi : DI X G M tg iter mi) (hg : DG X M Mt ws tg f) (hb : DSs X G { L with Mb := M } Mt M body o) (hs : ∀ x, foldedSetIterable iter X.env x = pure x := by intro _; rfl) :
    DS X G L M M (.For tg iter body [] pos) (oFor mi f o) := ps_imp (ps_for hp hc hi hg hb hs) fun E σ H h => by
  obtain ⟨g, O, env, sr, q⟩ := tS_iff.mp h
  refine ⟨g, O, env, sr, ?_⟩
  unfold oFor at q
  cases h : mi env with
  | err => rw [h] at q; exact q
  | exc c d =>
    rw [h] at q
    exact fun H' dd cls va s h1 h2 h3 => q σ H' O dd cls va (Sub.same s O) ((sr.grow s).weak hx) h1 h2 h3
  | ok ds =>
    rw [h, exOut_ok] at q
    intro J H1 s it
    refine ⟨fun i n σ' H' => n = ds.length - i ∧ i ≤ ds.length ∧ ∃ O' env', Sub H1 O H' O' ∧ SR g.H0 g.O0 M O' env' σ' H' ∧ OutOk G L M g O' H' E (loop f o (ds.drop i) env'),
      ⟨_, rfl, Nat.zero_le _, O, env, Sub.refl _ _, sr.grow s, OutOk.sub (Sub.same s O) q⟩, ?_⟩
    rintro i n σ2 H2 ⟨rfl, hi, O2, env2, sub2, sr2, q2⟩
    obtain ⟨go, stop⟩ := it H2 O2 i sub2 sr2.tr
    by_cases hlt : i < ds.length
    · obtain ⟨go, yld⟩ := go hlt
      refine .inr ⟨go, fun σ' H' => ∃ O' env', Sub H1 O H' O' ∧ SR g.H0 g.O0 M O' env' σ' H' ∧ OutOk G L M g O' H' E (loop f o (ds.drop (i + 1)) env'),
        fun σ' H' z => ⟨ds.length - (i + 1), by omega, rfl, hlt, z⟩, fun x H3 y => ?_⟩
      obtain ⟨s3, d, hd, rd⟩ := yld x H3 y
      refine ⟨_, g, O2, env2, d, sr2.grow s3, rd, ?_⟩
      rw [List.drop_eq_getElem_cons hlt] at q2
      have hd' : ds[i] = d := by
        rw [List.getElem?_eq_getElem hlt] at hd
        exact Option.some.inj hd
      rw [hd'] at q2
      unfold loop at q2
      cases hf : f d env2 with
      | none => rw [hf] at q2; exact q2
      | some e1 =>
        rw [hf] at q2
        simp only at q2 ⊢
        intro σ4 H4 O4 _ _ s4 sr4 _
        have sub4 : Sub H1 O H4 O4 := (sub2.trans (Sub.same s3 O2)).trans s4
        refine tS_iff.mpr ⟨g, O4, e1, sr4, ?_⟩
        have q3 := OutOk.sub ((Sub.same s3 O2).trans s4) q2
        cases ho : o e1 with
        | nx e2 =>
          rw [ho] at q3
          exact fun σ5 H5 O5 s5 sr5 => ⟨O5, e2, sub4.trans s5, sr5, OutOk.sub s5 q3⟩
        | ct e2 =>
          rw [ho] at q3
          exact fun σ5 H5 O5 s5 sr5 => ⟨O5, e2, sub4.trans s5, sr5, OutOk.sub s5 q3⟩
        | bk e2 =>
          rw [ho] at q3
          exact fun σ5 H5 O5 s5 sr5 => q3 σ5 H5 O5 s5 sr5
        | rt d => rw [ho] at q3; exact q3
        | exc c d e => rw [ho] at q3; exact q3
        | err => rw [ho] at q3; exact q3
    · have hl : i = ds.length := by omega
      subst hl
      refine .inl ⟨stop (Nat.le_refl _), ?_⟩
      rw [List.drop_length] at q2
      exact q2 σ2 H2 O2 (Sub.refl _ _) sr2

/-! ### while -/
def wloop (nc : Env' → Res Bool) (body : Env' → Out) : Nat → Env' → Out
  | 0, _ => .err
  | n + 1, env => exOut (nc env) env fun b => if b = true then
      match body env with
      | .nx e => wloop nc body n e
      | .ct e => wloop nc body n e
      | .bk e => .nx e
      | x => x
    else .nx env
theorem ds_while {c : Expr} (n : Nat) (hx : mle M L.Mx = true) (hp : PassesOwn (model X.prog X.w) X.A X.env X.xe) (hc : DT X G M c nc) (hb : DSs X G { L with Mb := M } M M body o) : DS X G L M M (.While c body [] pos) (wloop nc o n) := ps_imp (ps_while hp hc hb) fun E σ H h => by
  obtain ⟨g, O, env, sr, q⟩ := tS_iff.mp h
  refine ⟨fun m σ' H' => ∃ O' env', SR g.H0 g.O0 M O' env' σ' H' ∧ OutOk G L M g O' H' E (wloop nc o m env'), ⟨n, O, env, sr, q⟩, ?_⟩
  rintro m σ2 H2 ⟨O2, env2, sr2, q2⟩
  cases m with
  | zero => exact q2.elim
  | succ m =>
    unfold wloop at q2
    refine tT_go sr2 hx q2 fun b q2 H3 s => ?_
    cases b with
    | false =>
      rw [if_neg Bool.false_ne_true] at q2 ⊢
      exact q2 σ2 H3 O2 (Sub.same s O2) (sr2.grow s)
    | true =>
      rw [if_pos rfl] at q2 ⊢
      refine ⟨fun σ' H' => ∃ O' env', SR g.H0 g.O0 M O' env' σ' H' ∧ OutOk G L M g O' H' E (wloop nc o m env'), fun σ' H' z => ⟨m, Nat.lt_succ_self _, z⟩, tS_iff.mpr ⟨g, O2, env2, sr2.grow s, ?_⟩⟩
      have q3 := OutOk.sub (Sub.same s O2) q2
      cases ho : o env2 with
      | nx e2 => rw [ho] at q3; exact fun σ5 H5 O5 s5 sr5 => ⟨O5, e2, sr5, OutOk.sub s5 q3⟩
      | ct e2 => rw [ho] at q3; exact fun σ5 H5 O5 s5 sr5 => ⟨O5, e2, sr5, OutOk.sub s5 q3⟩
      | bk e2 => rw [ho] at q3; exact fun σ5 H5 O5 s5 sr5 => q3 σ5 H5 O5 s5 sr5
      | rt d => rw [ho] at q3; exact q3
      | exc c d e => rw [ho] at q3; exact q3
      | err => rw [ho] at q3; exact q3

/-! ### calls of defs -/
def spD (kr : Kd) (mg : Str → Option Value) (np : Nat) (mf : List D → Res D) : Sp := fun vs H Q E => vs.length = np ∧ ∃ (O : AS) (ds : List D), Trk H O ∧ RpA H O ds vs ∧ match mf ds with
  | .ok d => ∀ H' v, Same H H' → RK kr H O H' d v → Q v H'
  | .exc c d => ∀ H' dd cls va, Same H H' → mg c = some cls → H' dd = some (.xd [(("at" : Str), va)]) → Rp H' O d va → E cls (some dd) H'
  | .err => False
def mCall (mf : List D → Res D) (ms : Env' → Res (List D)) : Env' → Res D := fun env => (ms env).bind mf
theorem aLen_cons {env : Env'} {ds : List D} (h : aCons m ms env = .ok ds) : ∃ d r, ds = d :: r ∧ ms env = .ok r := by
  unfold aCons at h
  cases h1 : m env with
  | ok d =>
    cases h2 : ms env with
    | ok r => rw [h1, h2] at h; cases h; exact ⟨d, r, rfl, rfl⟩
    | exc c d => rw [h1, h2] at h; cases h
    | err => rw [h1, h2] at h; cases h
  | exc c d => rw [h1] at h; cases h
  | err => rw [h1] at h; cases h
theorem de_call {kr : Kd} {lv : Nat} {fa : Addr} {fd : FuncData} {ps : List Str} {np : Nat} {mf : List D → Res D} {x : Str} {p : Pos} {es : List Expr} (F : FnOk X.prog X.w X.K X.mg X.base (L2.CX X.prog X.w) lv fa fd ps (spD kr G.mg np mf)) (hr : Room lv X.A) (hg : Gl X x) (hm : X.mg x = some (.ref fa)) (hk : PySem.W.keepIn X.K (.ref fa) = true) (hb : Binds X.K fd ps [])
    (tk : Takes X G.W) (ha : DA X G M .pl (e :: es) ms) (hl : ∀ env ds, ms env = .ok ds → ds.length = np) (hdb : (x == ("__debug__" : Str)) = false := by decide) (he : starEach (e :: es) X.env = (false, eval e X.env) :: starEach es X.env := by rfl) (hpl : (backTo pos (starEach es X.env)).any (·.1) = false := by rfl) :
    DE X G M kr (.Call (.Name x p) (e :: es) [] pos) (mCall mf ms) := pe_imp (pe_callS F hr hg hm hk hb (fun σ => passAt tk σ) ha hdb he hpl) fun σ H Q ⟨g, O, env, sr, q⟩ => by
  refine ⟨g, O, env, sr, ?_⟩
  unfold mCall at q
  cases h : ms env with
  | err => rw [h] at q; exact q
  | exc c d => rw [h] at q; exact q
  | ok ds =>
    rw [h, Res.bind_ok] at q
    intro H1 vs s r
    have r : RpA H1 O ds vs := r
    refine ⟨by rw [← r.length]; exact hl env ds h, O, ds, Trk.grow sr.tr s, r, ?_⟩
    cases h2 : mf ds with
    | err => rw [h2] at q; exact q
    | exc c d =>
      rw [h2] at q
      exact fun H' dd cls va s' h1 h2 h3 => q H' dd cls va (s.trans s') h1 h2 h3
    | ok d =>
      rw [h2] at q
      exact fun H' v s' r' => q H' v (s.trans s') (RK.back s r')
end
end DL

namespace DL
open PySem PySem.Spec L2
/-! ### a def by its body -/
def runD (kr : Kd) (n : Nat) (o : Env' → Out) (ds : List D) : Res D := match o (ds.map some ++ List.replicate (n - ds.length) none) with
  | .nx _ => match kr with
    | .pl => .ok .none
    | _ => .err
  | .rt d => .ok d
  | .exc c d _ => .exc c d
  | _ => .err
def wE (E : XK) : WX := fun cls d _ H => E cls d H
section
variable {P : Program} {w : World} {K : PySem.W.Frag} {mg : Str → Option Value} {base : Heap}
theorem tkX {N : List Str} {qual : Str} {sc : Scope} {f : Addr} {cdv : Value} {A : Around} {outer : List Env} {s : Shared} {H : Hp} {E : XK} : Takes (cxOf (L2.CX P w) P w K mg base N qual sc f cdv A outer s H E) (wE E) := takes_of rfl rfl rfl rfl
theorem poX {N : List Str} {qual : Str} {sc : Scope} {f : Addr} {cdv : Value} {A : Around} {outer : List Env} {s : Shared} {H : Hp} {E : XK} : PassesOwn (model P w) (cxOf (L2.CX P w) P w K mg base N qual sc f cdv A outer s H E).A (cxOf (L2.CX P w) P w K mg base N qual sc f cdv A outer s H E).env (cxOf (L2.CX P w) P w K mg base N qual sc f cdv A outer s H E).xe := passes_of rfl
def mode0 (n np : Nat) : List Md := List.replicate np .fz ++ List.replicate (n - np) .un
theorem start_ok {N : List Str} {np : Nat} {kr : Kd} {M1 : List Md} {o : Env' → Out} {vs : List V} {H : Hp} {Q : VK} {E : XK} {O : AS} {ds : List D} (hl : vs.length = np) (tr : Trk H O) (r : RpA H O ds vs) (q : match runD kr N.length o ds with
  | .ok d => ∀ H' v, Same H H' → RK kr H O H' d v → Q v H'
  | .exc c d => ∀ H' dd cls va, Same H H' → mg c = some cls → H' dd = some (.xd [(("at" : Str), va)]) → Rp H' O d va → E cls (some dd) H'
  | .err => False) : tS ⟨wE E, mg, none⟩ ⟨[], [], kr⟩ (mode0 N.length np) M1 o { nx := fun _ H' => Q .non H', rt := Q } (L2.start N vs) H := by
  have hld : ds.length = np := by rw [r.length]; exact hl
  refine tS_iff.mpr ⟨⟨H, O, fun _ h => nomatch h⟩, O, ds.map some ++ List.replicate (N.length - ds.length) none, ⟨Same.refl H, fun _ h => h, tr, fun _ h => .inl h, ?_, ?_, ?_, ?_, ?_⟩, ?_⟩
  · unfold L2.start
    simp [hld, hl]
  · intro i d hm he
    by_cases hi : i < ds.length
    · rw [List.getElem?_append_left (by simpa using hi)] at he
      rw [List.getElem?_map] at he
      cases hd : ds[i]? with
      | none => rw [hd] at he; cases he
      | some d' =>
        rw [hd] at he
        cases he
        obtain ⟨v, hv, rv⟩ := r.get hd
        refine ⟨v, ?_, rv⟩
        unfold L2.start
        rw [List.getElem?_append_left (by simpa [← r.length] using hi), List.getElem?_map, hv]
        rfl
    · rw [List.getElem?_append_right (by simpa using hi)] at he
      obtain ⟨_, e⟩ := List.getElem?_eq_some_iff.mp he
      rw [List.getElem_replicate] at e
      cases e
  · intro i d hm he
    unfold mode0 at hm
    by_cases hi : i < np
    · rw [List.getElem?_append_left (by simpa using hi)] at hm
      obtain ⟨_, e⟩ := List.getElem?_eq_some_iff.mp hm
      rw [List.getElem_replicate] at e
      cases e
    · rw [List.getElem?_append_right (by simpa using hi)] at hm
      obtain ⟨_, e⟩ := List.getElem?_eq_some_iff.mp hm
      rw [List.getElem_replicate] at e
      cases e
  · intro i j d e a hm
    unfold mode0 at hm
    by_cases hi : i < np
    · rw [List.getElem?_append_left (by simpa using hi)] at hm
      obtain ⟨_, e⟩ := List.getElem?_eq_some_iff.mp hm
      rw [List.getElem_replicate] at e
      cases e
    · rw [List.getElem?_append_right (by simpa using hi)] at hm
      obtain ⟨_, e⟩ := List.getElem?_eq_some_iff.mp hm
      rw [List.getElem_replicate] at e
      cases e
  · intro i a hm
    unfold mode0 at hm
    by_cases hi : i < np
    · rw [List.getElem?_append_left (by simpa using hi)] at hm
      obtain ⟨_, e⟩ := List.getElem?_eq_some_iff.mp hm
      rw [List.getElem_replicate] at e
      cases e
    · rw [List.getElem?_append_right (by simpa using hi)] at hm
      obtain ⟨_, e⟩ := List.getElem?_eq_some_iff.mp hm
      rw [List.getElem_replicate] at e
      cases e
  · unfold runD at q
    cases ho : o (ds.map some ++ List.replicate (N.length - ds.length) none) with
    | nx e =>
      rw [ho] at q
      cases kr with
      | pl => exact fun σ' H' O' s sr => q H' _ sr.same .non
      | co => exact q.elim
      | fr => exact q.elim
      | lf => exact q.elim
    | rt d => rw [ho] at q; exact q
    | exc c d e =>
      rw [ho] at q
      exact fun σ' H' O' dd cls va s sr h1 h2 h3 => q H' dd cls va sr.same h1 h2 (h3.mono (Sub.less sr.sub0))
    | bk e => rw [ho] at q; exact q.elim
    | ct e => rw [ho] at q; exact q.elim
    | err => rw [ho] at q; exact q.elim
theorem Fun.okD {x qual : Str} {st : Stmt} {f : Addr} {fd : FuncData} {N ps : List Str} {k : Nat} {kr : Kd} {M1 : List Md} {o : Env' → Out} (F : Fun K x qual st f fd) (S : FnScope N ps (defScope st)) (hN : ps.length ≤ N.length)
    (hbody : ∀ (cdv : Value) (A : Around) (outer : List Env) (s : Shared) (H : Hp) (E : XK), Room k (A.deeper (PyProof.Rows.envOfC qual (defScope st) s.heap.objs.size f cdv)) →
      DSs (cxOf (L2.CX P w) P w K mg base N qual (defScope st) f cdv A outer s H E) ⟨wE E, mg, none⟩ ⟨[], [], kr⟩ (mode0 N.length ps.length) M1 (defBody st) o) :
    FnOk P w K mg base (L2.CX P w) (k + 1) f fd ps (spD kr mg ps.length (runD kr N.length o)) := by
  refine F.okX S (fun vs H Q E h => h.1) fun cdv A outer s H vs Q E hr h => ?_
  refine ⟨_, hbody cdv A outer s H E hr, ?_⟩
  obtain ⟨hl, O, ds, tr, r, q⟩ := h
  exact start_ok hl tr r q
end
end DL

namespace DL
open PySem PySem.Spec L2
/-! ### list comprehensions -/
def wipeE : Env' → List Nat → Env'
  | env, [] => env
  | env, v :: vs => (wipeE env vs).set v none
def wipeM : List Md → List Nat → List Md
  | M, [] => M
  | M, v :: vs => (wipeM M vs).set v .un
theorem wipeE_get {i : Nat} {d : D} : ∀ {env : Env'} {vs : List Nat}, (wipeE env vs)[i]? = some (some d) → env[i]? = some (some d) ∧ i ∉ vs
  | env, [], h => ⟨h, by simp⟩
  | env, v :: vs, h => by
    unfold wipeE at h
    by_cases hi : v = i
    · subst hi
      obtain ⟨hlt, _⟩ := List.getElem?_eq_some_iff.mp h
      rw [List.getElem?_set_self (by simpa using hlt)] at h; cases h
    · rw [List.getElem?_set_ne hi] at h
      obtain ⟨h1, h2⟩ := wipeE_get h
      exact ⟨h1, by simp only [List.mem_cons, not_or]; exact ⟨fun e => hi e.symm, h2⟩⟩
theorem wipeM_get {i : Nat} {md : Md} (hu : md ≠ .un) : ∀ {M : List Md} {vs : List Nat}, (wipeM M vs)[i]? = some md → M[i]? = some md
  | M, [], h => h
  | M, v :: vs, h => by
    unfold wipeM at h
    by_cases hi : v = i
    · subst hi
      obtain ⟨hlt, _⟩ := List.getElem?_eq_some_iff.mp h
      rw [List.getElem?_set_self (by simpa using hlt)] at h
      cases h
      exact absurd rfl hu
    · rw [List.getElem?_set_ne hi] at h
      exact wipeM_get hu h
theorem wipeM_un {i : Nat} {md : Md} : ∀ {M : List Md} {vs : List Nat}, i ∈ vs → md ≠ .un → ¬ (wipeM M vs)[i]? = some md
  | M, [], h, _, _ => nomatch h
  | M, v :: vs, h, hu, e => by
    unfold wipeM at e
    by_cases hi : v = i
    · subst hi
      obtain ⟨hlt, _⟩ := List.getElem?_eq_some_iff.mp e
      rw [List.getElem?_set_self (by simpa using hlt)] at e
      cases e
      exact hu rfl
    · rw [List.getElem?_set_ne hi] at e
      rcases List.mem_cons.mp h with z | z
      · exact hi z.symm
      · exact wipeM_un z hu e
theorem wipeE_length : ∀ (env : Env') (vs : List Nat), (wipeE env vs).length = env.length
  | env, [] => rfl
  | env, v :: vs => by unfold wipeE; rw [List.length_set, wipeE_length env vs]
theorem wipe_keep {σ : L2.St} {i : Nat} : ∀ {vs : List Nat}, i ∉ vs → (wipe σ vs)[i]? = σ[i]?
  | [], _ => rfl
  | v :: vs, h => by
    unfold wipe
    simp only [List.mem_cons, not_or] at h
    rw [List.getElem?_set_ne (fun e => h.1 e.symm)]
    exact wipe_keep h.2
theorem wipe_only {vs ws : List Nat} {σ σ' : L2.St} (h : Only' ws σ σ') (hs : ∀ i ∈ ws, i ∈ vs) : wipe σ' vs = wipe σ vs := by
  apply List.ext_getElem?
  intro i
  by_cases hi : i ∈ vs
  · have key : ∀ (τ : L2.St), τ.length = σ.length → (wipe τ vs)[i]? = if i < σ.length then some none else none := by
      intro τ hτ
      rw [← hτ]
      clear h hs hτ
      induction vs with
      | nil => cases hi
      | cons v vs ih =>
        unfold wipe
        by_cases e : v = i
        · subst e
          by_cases hl : v < τ.length
          · rw [if_pos hl, List.getElem?_set_self (by rw [wipe_length]; exact hl)]
          · rw [if_neg hl, List.getElem?_eq_none (by rw [List.length_set, wipe_length]; omega)]
        · rw [List.getElem?_set_ne e]
          rcases List.mem_cons.mp hi with z | z
          · exact absurd z.symm e
          · exact ih z
    rw [key σ' h.1, key σ rfl]
  · rw [wipe_keep hi, wipe_keep hi]
    exact h.2 i fun z => hi (hs i z)
theorem wipe_idem {vs : List Nat} {σ : L2.St} : wipe (wipe σ vs) vs = wipe σ vs := by
  refine wipe_only (ws := vs) ⟨wipe_length _ _, fun i hi => wipe_keep hi⟩ fun _ h => h
/-- the frame's state within a block, the new list at p -/
theorem SR.blk {H0 H H' : Hp} {O0 O : AS} {M : List Md} {env : Env'} {σ : L2.St} {p : Addr} {xs : List V} (vs : List Nat) (r : SR H0 O0 M O env σ H) (s : Same H H') (hp : H p = none) (hp' : H' p = some (.lst xs)) :
    SR H0 O0 (wipeM M vs) (fun b => O b ∨ b = p) (wipeE env vs) (wipe σ vs) H' where
  same := r.same.trans s
  sub0 := fun a h => .inl (r.sub0 a h)
  tr := fun a h => by
    rcases h with h | rfl
    · exact Trk.grow r.tr s a h
    · exact ⟨_, hp', trivial⟩
  new := fun a h => by
    rcases h with h | rfl
    · exact r.new a h
    · exact .inr (r.same.free hp)
  len := by rw [wipeE_length, wipe_length]; exact r.len
  fz := fun i d hm he => by
    obtain ⟨he', hi⟩ := wipeE_get he
    obtain ⟨v, ev, q⟩ := r.fz i d (wipeM_get (by simp) hm) he'
    exact ⟨v, by rw [wipe_keep hi]; exact ev, q.mono ((Sub.more hp).trans (Sub.same s _))⟩
  ow := fun i d hm he => by
    obtain ⟨he', hi⟩ := wipeE_get he
    obtain ⟨a, ev, oa, na, q⟩ := r.ow i d (wipeM_get (by simp) hm) he'
    exact ⟨a, by rw [wipe_keep hi]; exact ev, .inl oa, na, q.same s ((Sub.more hp).trans (Sub.same s _))⟩
  dist := fun i j d e a h1 h2 h3 h4 h5 h6 => by
    obtain ⟨h3', hi⟩ := wipeE_get h3
    obtain ⟨h4', hj⟩ := wipeE_get h4
    rw [wipe_keep hi] at h5
    rw [wipe_keep hj] at h6
    exact r.dist i j d e a (wipeM_get (by simp) h1) (wipeM_get (by simp) h2) h3' h4' h5 h6
  exs := fun i a hm => by
    have hi : i ∉ vs := fun z => wipeM_un z (by simp) hm
    rw [wipe_keep hi]
    exact r.exs i a (wipeM_get (by simp) hm)
def noX {α : Type} : Res α → Res α
  | .ok a => .ok a
  | _ => .err
/-- walked while all that is tracked stands -/
def ItOkS (J : It) (ds : List D) (O : AS) (H1 : Hp) : Prop := ∀ (H : Hp) (O' : AS) (i : Nat), Same H1 H → Sub H1 O H O' → Trk H O' →
  (i < ds.length → J.go i H ∧ ∀ x H', J.yld i H x H' → Same H H' ∧ ∃ d, ds[i]? = some d ∧ Rp H' O' d x) ∧ (ds.length ≤ i → J.stop i H)
def tIS (G : Gd) (M : List Md) (mi : Env' → Res (List D)) : TI := fun σ H R => ∃ (g : Gr G.ex) (O : AS) (env : Env'), SR g.H0 g.O0 M O env σ H ∧ match mi env with
  | .ok ds => ∀ J H1, Same H H1 → ItOkS J ds O H1 → R J H1
  | .exc c d => XW G O σ H c d
  | .err => False
def DIS (X : Cx) (G : Gd) (M : List Md) (tg iter : Expr) (mi : Env' → Res (List D)) : Prop := PI X tg iter (tIS G M mi)
theorem DIS.of {X : Cx} {G : Gd} {M : List Md} {tg iter : Expr} {mi : Env' → Res (List D)} (h : DI X G M tg iter mi) : DIS X G M tg iter mi := pi_imp h fun σ H R ⟨g, O, env, sr, q⟩ => by
  refine ⟨g, O, env, sr, ?_⟩
  cases h : mi env with
  | err => rw [h] at q; exact q
  | exc c d => rw [h] at q; exact q
  | ok ds => rw [h] at q; exact fun J H1 s it => q J H1 s fun H O' i _ => it H O' i
theorem itOkS_list {K : PySem.W.Frag} {H1 : Hp} {O : AS} {p : Addr} {xs : List V} {ds : List D} (e : L2.Rd H1 p (.lst xs)) (r : RpA H1 O ds xs) : ItOkS (Itl K p) ds O H1 := fun H O' i sm s tr => by
  have e' := rd_same sm e
  have r' := r.mono s
  refine ⟨fun hi => ?_, fun hi => ⟨xs, Rd.seqL e', by rw [← r.length]; exact hi⟩⟩
  obtain ⟨v, hv, rv⟩ := r'.get (List.getElem?_eq_getElem hi)
  refine ⟨⟨xs, v, Rd.seqL e', hv⟩, fun x H' y => ?_⟩
  obtain ⟨rfl, y⟩ := y
  have := y xs (Rd.seqL e')
  rw [hv] at this
  cases this
  exact ⟨Same.refl _, _, List.getElem?_eq_getElem hi, rv⟩
/-- an owned list -/
def iOwn (m : Env' → Res D) : Env' → Res (List D) := fun env => (m env).bind fun d => match d with
  | .list ds => .ok ds
  | _ => .err
theorem dis_own {X : Cx} {G : Gd} {M : List Md} {k : Kd} {tg e : Expr} {m : Env' → Res D} (he : DE X G M k e m) : DIS X G M tg e (iOwn m) := pi_imp (pi_list he.co) fun σ H R ⟨g, O, env, sr, q⟩ => by
  refine ⟨g, O, env, sr, ?_⟩
  unfold iOwn at q
  cases h : m env with
  | err => rw [h] at q; exact q
  | exc c d => rw [h] at q; exact q
  | ok d =>
    rw [h, Res.bind_ok] at q
    intro H1 v s r
    cases d <;> simp only at q
    case list ds =>
      obtain ⟨p, xs, rfl, e1, r1⟩ := Rc.list_inv r
      exact ⟨p, rfl, ⟨xs, Rd.seqL e1⟩, q _ _ s (itOkS_list e1 r1)⟩
    all_goals exact q.elim
/-- the items of the new list -/
def lcG (f : D → Env' → Option Env') (nc : Env' → Res Bool) (m : Env' → Res D) : List D → Env' → Res (List D)
  | [], _ => .ok []
  | d :: ds, env => match f d env with
    | none => .err
    | some e1 => (noX (nc e1)).bind fun b => if b = true then (noX (m e1)).bind fun y => (lcG f nc m ds env).bind fun ys => .ok (y :: ys) else lcG f nc m ds env
def mLc (mi : Env' → Res (List D)) (f : D → Env' → Option Env') (nc : Env' → Res Bool) (m : Env' → Res D) (vs : List Nat) : Env' → Res D := fun env => (mi env).bind fun ds => (noX (lcG f nc m ds (wipeE env vs))).bind fun ys => if ys.length ≤ sizeLine then .ok (.list ys) else .err
/-- a clause's tests -/
def DTs (X : Cx) (G : Gd) (M : List Md) (es : List Expr) (m : Env' → Res Bool) : Prop := PTs X es (tT G M m)
theorem pts_imp {X : Cx} {e : List Expr} {t t' : TT} (h : PTs X e t) (i : ∀ σ H Q, t' σ H Q → t σ H Q) : PTs X e t' := ⟨fun pins s σ H Q I q => h.run pins s σ H Q I (i σ H Q q)⟩
def bYes : Env' → Res Bool := fun _ => .ok true
theorem dts_nil {X : Cx} {G : Gd} {M : List Md} : DTs X G M [] bYes := pts_imp pts_nil fun σ H Q ⟨g, O, env, sr, q⟩ => q H (Same.refl H)
theorem dts_one {X : Cx} {G : Gd} {M : List Md} {c : Expr} {nc : Env' → Res Bool} (h : DT X G M c nc) : DTs X G M [c] nc := pts_one h
/-- nothing is raised in a block -/
def Gd.blk (G : Gd) : Gd := ⟨fun _ _ _ _ => False, G.mg, G.ex⟩
section
variable {X : Cx} {G : Gd} {L : Lp} {M M' Mt : List Md} {k : Kd} {ws vs : List Nat} {mi : Env' → Res (List D)} {f : D → Env' → Option Env'} {nc : Env' → Res Bool} {m : Env' → Res D}
theorem tLc_ok (hws : ∀ i ∈ ws, i ∈ vs) (σ : L2.St) (H : Hp) (Q : VK) (h : tE G M .fr (mLc mi f nc m vs) σ H Q) : tLc (tIS G M mi) (tG (wipeM M vs) Mt ws f) (tT G.blk Mt nc) (tE G.blk Mt .pl m) vs σ H Q := by
  obtain ⟨g, O, env, sr, q⟩ := h
  refine ⟨g, O, env, sr, ?_⟩
  unfold mLc at q
  cases h : mi env with
  | err => rw [h] at q; exact q
  | exc c d => rw [h] at q; exact q
  | ok ds =>
    rw [h, Res.bind_ok] at q
    intro J H1 s1 it D hD
    cases h2 : lcG f nc m ds (wipeE env vs) with
    | err => rw [h2] at q; exact q.elim
    | exc c d => rw [h2] at q; exact q.elim
    | ok ys =>
      rw [h2] at q
      simp only [noX, Res.bind_ok] at q
      by_cases hz : ys.length ≤ sizeLine
      · rw [if_pos hz] at q
        refine ⟨fun i n H' => n = ds.length - i ∧ i ≤ ds.length ∧ Same H1 H' ∧ ∃ acc da rest, H' D = some (.lst acc) ∧ RpA H' (fun b => O b ∨ b = D) da acc ∧ lcG f nc m (ds.drop i) (wipeE env vs) = .ok rest ∧ da ++ rest = ys,
          ⟨_, rfl, Nat.zero_le _, same_new hD, [], [], ys, upd_same, .nil, h2, rfl⟩, ?_⟩
        rintro i n H2 ⟨rfl, hi, s2, acc, da, rest, hacc, ra, hr, hy⟩
        have sub2 : Sub H1 O H2 (fun b => O b ∨ b = D) := (Sub.more hD).trans (Sub.same s2 _)
        have srb := (sr.grow s1).blk vs s2 hD hacc
        obtain ⟨go, stop⟩ := it H2 _ i s2 sub2 srb.tr
        by_cases hlt : i < ds.length
        · obtain ⟨go, yld⟩ := go hlt
          refine .inr ⟨go, fun H' => Same H1 H' ∧ ∃ acc da rest, H' D = some (.lst acc) ∧ RpA H' (fun b => O b ∨ b = D) da acc ∧ lcG f nc m (ds.drop (i + 1)) (wipeE env vs) = .ok rest ∧ da ++ rest = ys,
            fun H' z => ⟨ds.length - (i + 1), by omega, rfl, hlt, z⟩, fun x H3 y => ?_⟩
          obtain ⟨s3, d, hd, rd⟩ := yld x H3 y
          refine ⟨_, g, _, wipeE env vs, d, srb.grow s3, rd, ?_⟩
          rw [List.drop_eq_getElem_cons hlt] at hr
          have hd' : ds[i] = d := by
            rw [List.getElem?_eq_getElem hlt] at hd
            exact Option.some.inj hd
          rw [hd'] at hr
          unfold lcG at hr
          cases hf : f d (wipeE env vs) with
          | none => rw [hf] at hr; cases hr
          | some e1 =>
            rw [hf] at hr
            simp only at hr ⊢
            intro σ4 H4 O4 on4 s4 _ sr4 eo
            subst eo
            refine ⟨(wipe_only on4 hws).trans wipe_idem, g, _, e1, sr4, ?_⟩
            cases hb : nc e1 with
            | err => rw [hb] at hr; cases hr
            | exc c d => rw [hb] at hr; cases hr
            | ok b =>
              rw [hb] at hr
              simp only [noX, Res.bind_ok] at hr
              intro H5 s5
              have s35 : Same H2 H5 := (s3.trans s4).trans s5
              cases b with
              | false =>
                rw [if_neg Bool.false_ne_true] at hr
                rw [if_neg Bool.false_ne_true]
                exact ⟨s2.trans s35, acc, da, rest, s35 _ _ hacc, ra.mono (Sub.same s35 _), hr, hy⟩
              | true =>
                rw [if_pos rfl] at hr
                rw [if_pos rfl]
                refine ⟨g, _, e1, sr4.grow s5, ?_⟩
                cases hm : m e1 with
                | err => rw [hm] at hr; cases hr
                | exc c d => rw [hm] at hr; cases hr
                | ok y' =>
                  rw [hm] at hr
                  simp only [noX, Res.bind_ok] at hr
                  cases hl : lcG f nc m (ds.drop (i + 1)) (wipeE env vs) with
                  | err => rw [hl] at hr; cases hr
                  | exc c d => rw [hl] at hr; cases hr
                  | ok r2 =>
                    rw [hl] at hr
                    simp only [Res.bind_ok] at hr
                    cases hr
                    intro H6 v s6 rv
                    have rv : Rp H6 (fun b => O b ∨ b = D) y' v := rv
                    have s36 : Same H2 H6 := s35.trans s6
                    have hacc6 := s36 _ _ hacc
                    have ra6 := ra.mono (Sub.same s36 (fun b => O b ∨ b = D))
                    have su : Sub H6 (fun b => O b ∨ b = D) (upd H6 D (.lst (acc ++ [v]))) (fun b => O b ∨ b = D) := Sub.upd (.inr rfl)
                    refine ⟨acc, hacc6, ?_, ?_, acc ++ [v], da ++ [y'], r2, upd_same, (ra6.append (.cons rv .nil)).mono su, rfl, ?_⟩
                    · rw [← ra6.length]
                      have : da.length + (r2.length + 1) ≤ sizeLine := by
                        have e := congrArg List.length hy
                        rw [List.length_append, List.length_cons] at e
                        omega
                      omega
                    · intro b u e
                      rw [upd_ne (ne_of_none e hD)]
                      exact (s2.trans s36) _ _ e
                    · rw [List.append_assoc]; exact hy
        · have hl : i = ds.length := by omega
          subst hl
          refine .inl ⟨stop (Nat.le_refl _), ?_⟩
          rw [List.drop_length] at hr
          unfold lcG at hr
          cases hr
          rw [List.append_nil] at hy
          subst hy
          exact q H2 _ (s1.trans s2) ⟨D, rfl, s1.free hD, .lst hacc ra⟩
      · rw [if_neg hz] at q
        exact q.elim
variable {elt tg iter : Expr} {ifs : List Expr} {scope : Scope} {own : List (Str × Nat)} {pos : Pos}
theorem de_lc (hc : X.calm = true) (hN : X.N.Nodup) (hws : ∀ i ∈ ws, i ∈ own.map (·.2)) (hi : DIS X G M tg iter mi) (ok : BlkOk X.N X.env.scope scope own)
    (hg : ∀ (s : Shared) (H : Hp) (C : Addr) (cl : List (Str × Addr)) (fp : List Addr), DG (X.blk s H scope (compEnvC scope cl C X.env) fp) (wipeM M (own.map (·.2))) Mt ws tg f)
    (ht : ∀ (s : Shared) (H : Hp) (C : Addr) (cl : List (Str × Addr)) (fp : List Addr), DTs (X.blk s H scope (compEnvC scope cl C X.env) fp) G.blk Mt ifs nc)
    (he : ∀ (s : Shared) (H : Hp) (C : Addr) (cl : List (Str × Addr)) (fp : List Addr), DE (X.blk s H scope (compEnvC scope cl C X.env) fp) G.blk Mt .pl elt m) (hs : ∀ x, foldedSetIterable iter X.env x = pure x := by intro _; rfl) :
    DE X G M .fr (.ListComp elt [⟨tg, iter, ifs, 0⟩] scope pos) (mLc mi f nc m (own.map (·.2))) := pe_imp (pe_lc hc hN hi ok hg ht he hs) (tLc_ok hws)
/-- y = [..] on one line, y a local -/
theorem ds_setLcG {i : Nat} {y : Str} {py spos : Pos} (hx : mle M L.Mx = true) (hc : X.calm = true) (hN : X.N.Nodup) (hy : X.N[i]? = some y) (hyl : X.env.scope.names.lookup y = some .local) (hws : ∀ i ∈ ws, i ∈ own.map (·.2))
    (hsw : swapsWith (.ListComp elt [⟨tg, iter, ifs, 0⟩] scope pos) (some (.Name y py)) spos.line X.env = pure true) (hi : DIS X G M tg iter mi) (ok : BlkOk X.N X.env.scope scope own)
    (hg : ∀ (s : Shared) (H : Hp) (C : Addr) (cl : List (Str × Addr)) (fp : List Addr), DG (X.blk s H scope (compEnvC scope cl C X.env) fp) (wipeM M (own.map (·.2))) Mt ws tg f)
    (ht : ∀ (s : Shared) (H : Hp) (C : Addr) (cl : List (Str × Addr)) (fp : List Addr), DTs (X.blk s H scope (compEnvC scope cl C X.env) fp) G.blk Mt ifs nc)
    (he : ∀ (s : Shared) (H : Hp) (C : Addr) (cl : List (Str × Addr)) (fp : List Addr), DE (X.blk s H scope (compEnvC scope cl C X.env) fp) G.blk Mt .pl elt m) (hs : ∀ x, foldedSetIterable iter X.env x = pure x := by intro _; rfl) :
    DS X G L M (M.set i .ow) (.Assign [.Name y py] (.ListComp elt [⟨tg, iter, ifs, 0⟩] scope pos) spos) (oSet i (mLc mi f nc m (own.map (·.2)))) :=
  ps_imp (ps_setLc hc hN hy hyl hsw hi ok hg ht he hs) fun E σ H h => by
    obtain ⟨g, O, env, sr, q⟩ := tS_iff.mp h
    refine tLc_ok hws σ H _ (tE_go sr hx q fun d q H' v s r => ?_)
    obtain ⟨p, rfl, n, r⟩ := r
    obtain ⟨sub, sr'⟩ := sr.setO i s n r
    exact q _ _ _ sub sr'
end
end DL

namespace DL
open PySem PySem.Spec L2
section
variable {X : Cx} {G : Gd} {L : Lp} {M : List Md} {k ka kb kc : Kd} {a b c e : Expr} {m ma mb mc : Env' → Res D} {ms : Env' → Res (List D)} {pos : Pos}
/-! ### a op b op' c -/
def mChain (f f' : D → D → Option D) (ma mb mc : Env' → Res D) : Env' → Res D := fun env => (ma env).bind fun x => (mb env).bind fun y => (Res.of (f x y)).bind fun z => (asB z).bind fun k => if k = true then (mc env).bind fun w => Res.of (f' y w) else .ok (.bool false)
theorem tChain_ok {r r' : R2} {f f' : D → D → Option D} (hB : B2 .pl r f) (hB' : B2 .pl r' f') (σ : L2.St) (H : Hp) (Q : VK) (h : tE G M .pl (mChain f f' ma mb mc) σ H Q) : tChain r r' (tE G M .co ma) (tE G M .co mb) (tE G M .co mc) σ H Q := by
  obtain ⟨g, O, env, sr, q⟩ := h
  refine ⟨g, O, env, sr, ?_⟩
  unfold mChain at q
  cases ha : ma env with
  | err => rw [ha] at q; exact q
  | exc c d => rw [ha] at q; exact q
  | ok x =>
    rw [ha, Res.bind_ok] at q
    intro H1 v1 s1 r1
    refine ⟨g, O, env, sr.grow s1, ?_⟩
    cases hb : mb env with
    | err => rw [hb] at q; exact q
    | exc c d => rw [hb] at q; exact XW.grow s1 q
    | ok y =>
      rw [hb, Res.bind_ok] at q
      intro H2 v2 s2 r2
      have s12 := s1.trans s2
      cases hf : f x y with
      | none => rw [hf] at q; exact q.elim
      | some d =>
        rw [hf, Res.of_some, Res.bind_ok] at q
        refine hB (Trk.grow sr.tr s12) (Rc.same s2 r1) r2 hf fun H3 v s3 r => ?_
        cases d <;> simp only [asB, Res.bind_err] at q
        case bool t =>
          rw [Res.bind_ok] at q
          refine ⟨t, Rc.bl_inv (.of r), ?_⟩
          have s13 := s12.trans s3
          cases t with
          | false =>
            rw [if_neg Bool.false_ne_true] at q ⊢
            exact q H3 _ s13 (.bl _)
          | true =>
            rw [if_pos rfl] at q ⊢
            refine ⟨g, O, env, sr.grow s13, ?_⟩
            cases hc : mc env with
            | err => rw [hc] at q; exact q
            | exc c d => rw [hc] at q; exact XW.grow s13 q
            | ok w =>
              rw [hc, Res.bind_ok] at q
              intro H4 v4 s4 r4
              cases hf2 : f' y w with
              | none => rw [hf2] at q; exact q.elim
              | some d2 =>
                rw [hf2] at q
                exact hB' (Trk.grow sr.tr (s13.trans s4)) (Rc.same (s3.trans s4) r2) r4 hf2 fun H' v s r => q H' v ((s13.trans s4).trans s) r
theorem de_chain {op op' : CmpOp} {r r' : R2} {f f' : D → D → Option D} (ho : OpR X (compareOp op) r) (ho' : OpR X (compareOp op') r') (hB : B2 .pl r f) (hB' : B2 .pl r' f') (ha : DE X G M ka a ma) (hb : DE X G M kb b mb) (hc : DE X G M kc c mc)
    (hm : lastMarks [op, op'] [b, c] = false := by with_unfolding_all rfl) : DE X G M .pl (.Compare a [op, op'] [b, c] pos) (mChain f f' ma mb mc) := pe_imp (pe_chain ho ho' ha.co hb.co hc.co hm) (tChain_ok hB hB')
theorem dt_chain {op op' : CmpOp} {r r' : R2} {f f' : D → D → Option D} (ho : OpR X (compareOp op) r) (ho' : OpR X (compareOp op') r') (hB : B2 .pl r f) (hB' : B2 .pl r' f') (ha : DE X G M ka a ma) (hb : DE X G M kb b mb) (hc : DE X G M kc c mc)
    (hm : lastMarks [op, op'] [b, c] = false := by with_unfolding_all rfl) : DT X G M (.Compare a [op, op'] [b, c] pos) (mB (mChain f f' ma mb mc)) := pt_imp (pt_chain ho ho' ha.co hb.co hc.co hm) fun σ H Q h => by
  obtain ⟨g, O, env, sr, q⟩ := h
  refine tChain_ok (G := G) (M := M) hB hB' σ H _ ⟨g, O, env, sr, ?_⟩
  unfold mB at q
  cases h : mChain f f' ma mb mc env with
  | err => rw [h] at q; exact q
  | exc c d => rw [h] at q; exact q
  | ok d =>
    rw [h, Res.bind_ok] at q
    intro H' v s r
    cases d <;> simp only [asB] at q
    case bool b => exact ⟨b, Rc.bl_inv (.of r), q H' s⟩
/-! ### sum, any, all of lists -/
def intsOf : List D → Option (List Int)
  | [] => some []
  | .int i :: ds => (intsOf ds).map (i :: ·)
  | _ => none
def boolsOf : List D → Option (List Bool)
  | [] => some []
  | .bool i :: ds => (boolsOf ds).map (i :: ·)
  | _ => none
theorem intsOf_ok {H : Hp} {O : AS} : ∀ {ds : List D} {vs : List V} {ns : List Int}, RpA H O ds vs → intsOf ds = some ns → vs = ns.map V.int
  | _, _, _, .nil, h => by cases h; rfl
  | _, _, _, .cons (d := d) (ds := ds) a b, h => by
    cases d <;> simp only [intsOf] at h <;> try cases h
    case int i =>
      cases e : intsOf ds with
      | none => rw [e] at h; cases h
      | some ns' =>
        rw [e] at h; cases h
        cases a
        rw [List.map_cons, intsOf_ok b e]
theorem boolsOf_ok {H : Hp} {O : AS} : ∀ {ds : List D} {vs : List V} {ns : List Bool}, RpA H O ds vs → boolsOf ds = some ns → vs = ns.map V.bl
  | _, _, _, .nil, h => by cases h; rfl
  | _, _, _, .cons (d := d) (ds := ds) a b, h => by
    cases d <;> simp only [boolsOf] at h <;> try cases h
    case bool i =>
      cases e : boolsOf ds with
      | none => rw [e] at h; cases h
      | some ns' =>
        rw [e] at h; cases h
        cases a
        rw [List.map_cons, boolsOf_ok b e]
def sumD : List D → Option D
  | [.list ds] => (intsOf ds).map fun ns => .int ns.sum
  | _ => none
def anyD : List D → Option D
  | [.list ds] => (boolsOf ds).map fun ns => .bool (ns.any id)
  | _ => none
def allD : List D → Option D
  | [.list ds] => (boolsOf ds).map fun ns => .bool (ns.all id)
  | _ => none
theorem cb_sum {K : PySem.W.Frag} : CB .pl .co (rSum K) sumD := by
  intro H O vs ds d Q tr r hf q
  unfold sumD at hf
  split at hf
  · rename_i xs
    cases e : intsOf xs with
    | none => rw [e] at hf; cases hf
    | some ns =>
      rw [e] at hf; cases hf
      obtain ⟨v, rfl, r1⟩ := RcA.one r
      obtain ⟨p, ys, rfl, e1, r2⟩ := r1.list_inv
      cases intsOf_ok r2 e
      exact ⟨p, ns, rfl, Rd.seqL e1, q H _ (Same.refl H) (.int _)⟩
  · cases hf
theorem cb_any {K : PySem.W.Frag} : CB .pl .co (rAny K) anyD := by
  intro H O vs ds d Q tr r hf q
  unfold anyD at hf
  split at hf
  · rename_i xs
    cases e : boolsOf xs with
    | none => rw [e] at hf; cases hf
    | some ns =>
      rw [e] at hf; cases hf
      obtain ⟨v, rfl, r1⟩ := RcA.one r
      obtain ⟨p, ys, rfl, e1, r2⟩ := r1.list_inv
      cases boolsOf_ok r2 e
      exact ⟨p, ns, rfl, Rd.seqL e1, q H _ (Same.refl H) (.bl _)⟩
  · cases hf
theorem cb_all {K : PySem.W.Frag} : CB .pl .co (rAll K) allD := by
  intro H O vs ds d Q tr r hf q
  unfold allD at hf
  split at hf
  · rename_i xs
    cases e : boolsOf xs with
    | none => rw [e] at hf; cases hf
    | some ns =>
      rw [e] at hf; cases hf
      obtain ⟨v, rfl, r1⟩ := RcA.one r
      obtain ⟨p, ys, rfl, e1, r2⟩ := r1.list_inv
      cases boolsOf_ok r2 e
      exact ⟨p, ns, rfl, Rd.seqL e1, q H _ (Same.refl H) (.bl _)⟩
  · cases hf
/-! ### methods that give a value -/
def MB (k : Kd) (r : V → List V → Hp → VK → Prop) (f : D → List D → Option D) : Prop := ∀ {H : Hp} {O : AS} {x : V} {vs : List V} {dx : D} {ds : List D} {d : D} {Q : VK}, Trk H O → Rc H O dx x → RcA H O ds vs → f dx ds = some d →
  (∀ H' v, Same H H' → RK k H O H' d v → Q v H') → r x vs H Q
def mM1 (ok : D → Bool) (f : D → List D → Option D) (ma : Env' → Res D) (ms : Env' → Res (List D)) : Env' → Res D := fun env => (ma env).bind fun x => if ok x = true then (ms env).bind fun ds => Res.of (f x ds) else .err
def isStrD : D → Bool
  | .str _ => true
  | _ => false
def isListD : D → Bool
  | .list _ => true
  | _ => false
theorem tM1_ok {T : String} {K : PySem.W.Frag} {ok : D → Bool} {r : V → List V → Hp → VK → Prop} {f : D → List D → Option D} (hty : ∀ H O d v, Rc H O d v → ok d = true → tyV K T v H) (hM : MB k r f) (σ : L2.St) (H : Hp) (Q : VK) (h : tE G M k (mM1 ok f ma ms) σ H Q) :
    tBM K T r (tE G M .co ma) (tAs G M .co ms) σ H Q := by
  obtain ⟨g, O, env, sr, q⟩ := h
  refine ⟨g, O, env, sr, ?_⟩
  unfold mM1 at q
  cases ha : ma env with
  | err => rw [ha] at q; exact q
  | exc c d => rw [ha] at q; exact q
  | ok x =>
    rw [ha, Res.bind_ok] at q
    intro H1 v1 s1 r1
    by_cases hx : ok x = true
    · rw [if_pos hx] at q
      refine ⟨hty _ _ _ _ r1 hx, g, O, env, sr.grow s1, ?_⟩
      cases hb : ms env with
      | err => rw [hb] at q; exact q
      | exc c d => rw [hb] at q; exact XW.grow s1 q
      | ok ds =>
        rw [hb, Res.bind_ok] at q
        intro H2 vs s2 r2
        cases hf : f x ds with
        | none => rw [hf] at q; exact q.elim
        | some d =>
          rw [hf] at q
          exact hM (Trk.grow sr.tr (s1.trans s2)) (Rc.same s2 r1) r2 hf fun H' v s r => q H' v ((s1.trans s2).trans s) (RK.back (s1.trans s2) r)
    · rw [if_neg hx] at q
      exact q.elim
theorem ty_str {K : PySem.W.Frag} : ∀ H O d v, Rc H O d v → isStrD d = true → tyV K "str" v H := by
  intro H O d v r h
  cases d <;> simp only [isStrD] at h <;> try cases h
  cases r.str_inv
  rfl
theorem ty_list {K : PySem.W.Frag} : ∀ H O d v, Rc H O d v → isListD d = true → tyV K "list" v H := by
  intro H O d v r h
  cases d <;> simp only [isListD] at h <;> try cases h
  obtain ⟨p, xs, rfl, e, _⟩ := r.list_inv
  exact .inl ⟨rfl, xs, Rd.seqL e⟩
def strsOf : List D → Option (List Str)
  | [] => some []
  | .str i :: ds => (strsOf ds).map (i :: ·)
  | _ => none
theorem strsOf_ok {H : Hp} {O : AS} : ∀ {ds : List D} {vs : List V} {ns : List Str}, RpA H O ds vs → strsOf ds = some ns → vs = ns.map V.str
  | _, _, _, .nil, h => by cases h; rfl
  | _, _, _, .cons (d := d) (ds := ds) a b, h => by
    cases d <;> simp only [strsOf] at h <;> try cases h
    case str i =>
      cases e : strsOf ds with
      | none => rw [e] at h; cases h
      | some ns' =>
        rw [e] at h; cases h
        cases a
        rw [List.map_cons, strsOf_ok b e]
def joinD : D → List D → Option D
  | .str a, [.list ds] => (strsOf ds).bind fun ys => if (ys.map (·.length)).sum + ys.length * a.length ≤ 16777216 then some (.str (Str.join a ys)) else none
  | _, _ => none
theorem mb_join {K : PySem.W.Frag} : MB .pl (fun x xs H Q => ∃ a p, ∃ ys : List Str, x = .str a ∧ xs = [.ref p] ∧ (SqL K H p (ys.map V.str) ∨ SqT K H p (ys.map V.str)) ∧
    (ys.map (·.length)).sum + ys.length * a.length ≤ 16777216 ∧ Q (.str (Txt.join a ys)) H) joinD := by
  intro H O x vs dx ds d Q tr rx rv hf q
  unfold joinD at hf
  split at hf
  · rename_i a xs
    cases e : strsOf xs with
    | none => rw [e] at hf; cases hf
    | some ys =>
      rw [e, Option.bind_some] at hf
      split at hf
      · rename_i hz
        cases hf
        cases rx.str_inv
        obtain ⟨v, rfl, r1⟩ := RcA.one rv
        obtain ⟨p, zs, rfl, e1, r2⟩ := r1.list_inv
        cases strsOf_ok r2 e
        exact ⟨a, p, ys, rfl, rfl, .inl (Rd.seqL e1), hz, by rw [TL.join_eq]; exact q H _ (Same.refl H) (.str _)⟩
      · cases hf
  · cases hf
theorem de_join {o arg : Expr} {apos : Pos} (ho : DE X G M ka o ma) (he : DE X G M kb arg m) (hs : starEach [arg] X.env = [(false, eval arg X.env)] := by rfl) (hbase : attributeBase o "join" X.env (eval o X.env) = eval o X.env := by rfl) (hline : (apos.endLine == pos.line) = true := by rfl)
    (hfew : ((backTo pos (starEach [arg] X.env)).all (fun x => !x.1) && (backToKw pos (keywordEach [] X.env)).all (fun x => x.1.isSome)
      && decide ([arg].length + ([] : List Keyword).length + (if ([] : List Keyword).isEmpty then 0 else 1) < 30)) = true := by rfl) :
    DE X G M .pl (.Call (.Attribute o "join" apos) [arg] [] pos) (mM1 isStrD joinD ma (aCons m aNil)) :=
  pe_imp (pe_bm PySem.F.plainAttrs_str PySem.F.slot_str_join PySem.F.type_str_join mt_join ho.co (da_consC he da_nil hs) hbase hfew hline hs) (tM1_ok ty_str mb_join)
/-- xs.index(y) of data -/
def indexD : D → List D → Option D
  | .list ds, [d] => if SeqAt.shaped (.list ds) && SeqAt.shaped d then (ds.findIdx? fun z => PyData.eqv z d).map fun j => .int j else none
  | _, _ => none
theorem mb_index {K : PySem.W.Frag} : MB .pl (rIndexD K) indexD := by
  intro H O x vs dx ds d Q tr rx rv hf q
  unfold indexD at hf
  split at hf
  · rename_i xs y
    by_cases hs : (SeqAt.shaped (.list xs) && SeqAt.shaped y) = true
    · rw [if_pos hs] at hf
      have h1 := (Bool.and_eq_true_iff.mp hs).1
      have h2 := (Bool.and_eq_true_iff.mp hs).2
      cases e : xs.findIdx? fun z => PyData.eqv z y with
      | none => rw [e] at hf; cases hf
      | some j =>
        rw [e] at hf; cases hf
        obtain ⟨v, rfl, r1⟩ := RcA.one rv
        obtain ⟨p, zs, rfl, e1, r2⟩ := rx.list_inv
        obtain ⟨hj, h3, h4⟩ := List.findIdx?_eq_some_iff_getElem.mp e
        refine ⟨p, v, y, xs, j, xs[j], rfl, rfl, .lst (Rd.seqL e1) (r2.dp (canLay_of_shaped h1)), r1.dp (canLay_of_shaped h2), h1, h2, List.getElem?_eq_getElem hj, h3, fun i z hi hz => ?_, q H _ (Same.refl H) (.int _)⟩
        have := h4 i hi
        obtain ⟨hlt, hz'⟩ := List.getElem?_eq_some_iff.mp hz
        rw [hz'] at this
        simpa using this
    · rw [if_neg hs] at hf
      cases hf
  · cases hf
theorem de_index {o arg : Expr} {apos : Pos} (hu : X.A.units + 65 < cLine) (ho : DE X G M ka o ma) (he : DE X G M kb arg m) (hs : starEach [arg] X.env = [(false, eval arg X.env)] := by rfl) (hbase : attributeBase o "index" X.env (eval o X.env) = eval o X.env := by rfl) (hline : (apos.endLine == pos.line) = true := by rfl)
    (hfew : ((backTo pos (starEach [arg] X.env)).all (fun x => !x.1) && (backToKw pos (keywordEach [] X.env)).all (fun x => x.1.isSome)
      && decide ([arg].length + ([] : List Keyword).length + (if ([] : List Keyword).isEmpty then 0 else 1) < 30)) = true := by rfl) :
    DE X G M .pl (.Call (.Attribute o "index" apos) [arg] [] pos) (mM1 isListD indexD ma (aCons m aNil)) :=
  pe_imp (pe_bm PySem.F.plainAttrs_list PySem.F.slot_list_index PySem.F.type_list_index (mt_indexD hu) ho.co (da_consC he da_nil hs) hbase hfew hline hs) (tM1_ok ty_list mb_index)

/-! ### isinstance(x, T), T a built-in type -/
def tyOfD : D → String
  | .none => "NoneType"
  | .bool _ => "bool"
  | .int _ => "int"
  | .str _ => "str"
  | .list _ => "list"
  | .tuple _ => "tuple"
  | .dict _ => "dict"
def isiD (T : String) : D → Option D
  | .dict _ => none
  | d => (kitB (tyOfD d) T).map .bool
theorem TyX_of {K : PySem.W.Frag} {H : Hp} {O : AS} {d : D} {v : V} (r : Rc H O d v) (hd : ∀ kvs, d ≠ .dict kvs) : TyX K H v (.type (tyOfD d)) := by
  cases d with
  | none => cases r.non_inv; exact .base .non
  | bool b => cases r.bl_inv; exact .base (.bl b)
  | int i => cases r.int_inv; exact .base (.int i)
  | str x => cases r.str_inv; exact .base (.str x)
  | list ds =>
    obtain ⟨p, xs, rfl, e, _⟩ := r.list_inv
    rcases e with e | ⟨o, e⟩
    · exact .base (.lst e)
    · exact .base (.frz e)
  | tuple ds =>
    obtain ⟨p, xs, rfl, e, _⟩ := r.tuple_inv
    rcases e with e | ⟨o, e⟩
    · exact .base (.tup e)
    · exact .fTuple e
  | dict kvs => exact absurd rfl (hd kvs)
/-- the second argument: a type's name -/
def mIsi (T : String) (m : Env' → Res D) : Env' → Res D := fun env => (m env).bind fun x => Res.of (isiD T x)
theorem de_isi {x : Expr} {tn : Str} {T : String} {p p2 : Pos} (hg : Gl X "isinstance") (hm : X.mg "isinstance" = none) (hv : bootBuiltins "isinstance" = some (.builtin "isinstance")) (hx : DE X G M ka x m) (hT : PE X (.Name tn p2) (tC (.ty T)))
    (hs : starEach [x, .Name tn p2] X.env = [(false, eval x X.env), (false, eval (.Name tn p2) X.env)] := by rfl) (hs2 : starEach [.Name tn p2] X.env = [(false, eval (.Name tn p2) X.env)] := by rfl) : DE X G M .pl (.Call (.Name "isinstance" p) [x, .Name tn p2] [] pos) (mIsi T m) :=
  pe_imp (pe_callB call_isi hg hm hv (pa_cons hx.co (pa_cons hT pa_nil hs2) (by rw [hs, hs2])) (he := by rw [hs, hs2]) (hpl := by rw [hs2]; rfl)) fun σ H Q ⟨g, O, env, sr, q⟩ => by
    refine ⟨g, O, env, sr, ?_⟩
    unfold mIsi at q
    cases h : m env with
    | err => rw [h] at q; exact q
    | exc c d => rw [h] at q; exact q
    | ok d =>
      rw [h, Res.bind_ok] at q
      intro H1 v s r
      have key : ∀ b, kitB (tyOfD d) T = some b → (∀ kvs, d ≠ .dict kvs) → isiD T d = some (.bool b) → rIsi X.K [v, .ty T] H1 Q := by
        intro b hb hd hi
        rw [hi] at q
        exact ⟨v, .ty T, _, _, b, rfl, .ty T, TyX_of r hd, kit_ty hb, q H1 _ s (.bl _)⟩
      cases hi : isiD T d with
      | none => rw [hi] at q; exact q.elim
      | some y =>
        cases d <;> simp only [isiD] at hi <;> try cases hi
        all_goals
          cases hb : kitB (tyOfD _) T with
          | none => rw [hb] at hi; cases hi
          | some b => exact key b hb (fun kvs z => by cases z) (by simp only [isiD, hb]; rfl)
/-- a type's name, a module's constant -/
theorem de_glob {x : Str} {v : V} {d : D} {u : Value} (hg : Gl X x) (hm : X.mg x = some u) (rv : RelV v u) (r : ∀ H O, Rp H O d v) (hd : (x == ("__debug__" : Str)) = false := by decide) : DE X G M .pl (.Name x pos) (mC d) := de_c (pe_glob hg hm rv hd) r
end
end DL

namespace DL
open PySem PySem.Spec L2
theorem bt_len : bootBuiltins "len" = some (.builtin "len") := by decide +kernel
theorem bt_abs : bootBuiltins "abs" = some (.builtin "abs") := by decide +kernel
theorem bt_max : bootBuiltins "max" = some (.builtin "max") := by decide +kernel
theorem bt_min : bootBuiltins "min" = some (.builtin "min") := by decide +kernel
theorem bt_sum : bootBuiltins "sum" = some (.builtin "sum") := by decide +kernel
theorem bt_any : bootBuiltins "any" = some (.builtin "any") := by decide +kernel
theorem bt_all : bootBuiltins "all" = some (.builtin "all") := by decide +kernel
theorem bt_isinstance : bootBuiltins "isinstance" = some (.builtin "isinstance") := by decide +kernel
theorem bt_repr : bootBuiltins "repr" = some (.builtin "repr") := by decide +kernel
theorem bt_sorted : bootBuiltins "sorted" = some (.builtin "sorted") := by decide +kernel
theorem bt_int : bootBuiltins "int" = some (.type "int") := by decide +kernel
theorem bt_list : bootBuiltins "list" = some (.type "list") := by decide +kernel
theorem bt_tuple : bootBuiltins "tuple" = some (.type "tuple") := by decide +kernel
theorem bt_dict : bootBuiltins "dict" = some (.type "dict") := by decide +kernel
theorem bt_str : bootBuiltins "str" = some (.type "str") := by decide +kernel
theorem bt_bool : bootBuiltins "bool" = some (.type "bool") := by decide +kernel
theorem bt_set : bootBuiltins "set" = some (.type "set") := by decide +kernel
theorem hr65 {k : Nat} {A : Around} (hr : Room k A) : A.units + 65 < cLine := by have := hr.un; omega
def wfuel : Nat := 1000000000
section
variable {X : Cx} {G : Gd} {L : Lp} {M Mt : List Md} {k ka kb kc : Kd} {a b c e : Expr} {m ma mb mc : Env' → Res D} {ms mi : Env' → Res (List D)} {pos : Pos}
/-! ### int, text or list times an int -/
theorem flat_rep (x : Array Nat) : ∀ n : Nat, (List.replicate n x).foldl (· ++ ·) #[] = (List.replicate n x.toList).flatten.toArray := by
  have key : ∀ (n : Nat) (acc : Array Nat), (List.replicate n x).foldl (· ++ ·) acc = acc ++ (List.replicate n x.toList).flatten.toArray := by
    intro n
    induction n with
    | zero => intro acc; simp
    | succ n ih =>
      intro acc
      rw [List.replicate_succ, List.foldl_cons, ih, List.replicate_succ, List.flatten_cons]
      apply Array.ext'
      simp
  intro n
  rw [key n #[]]
  simp
def rMulS : R2 := fun x y H Q => ∃ (z : Str) (j : Int), x = .str z ∧ y = .int j ∧ 0 ≤ j ∧ z.length * j.toNat ≤ 1000000 ∧ j ≤ 1000000 ∧ Q (.str (repS z j.toNat)) H
theorem repS_one (z : Str) : repS z 1 = z := by
  unfold repS
  simp
theorem repS_empty {z : Str} (h : z.length = 0) (n : Nat) : repS z n = z := by
  obtain ⟨c⟩ := z
  have hc : c = #[] := by
    apply Array.eq_empty_of_size_eq_zero
    exact h
  subst hc
  unfold repS
  congr 1
  have : (List.replicate n ([] : List Nat)).flatten = [] := by
    induction n with
    | zero => rfl
    | succ n ih => rw [List.replicate_succ, List.flatten_cons, ih]; rfl
  simp [this]
theorem op_mulS : OpR X (binaryOp .Mult) rMulS := by
  intro pins s σ H x y v u Q I rx ry h
  obtain ⟨z, j, rfl, rfl, h0, h1, h2, q⟩ := h
  obtain ⟨t, rfl⟩ := rx
  obtain ⟨t', rfl⟩ := ry
  have fin : ∀ {w' : Str} {tk tk' : Tok}, w' = repS z j.toNat → EP X pins σ Q (.str w' tk) { s with toks := tk' } := fun {w' tk tk'} e => ⟨.str w', H, I.tok _, ⟨_, rfl⟩, by rw [e]; exact q⟩
  have fin0 : ∀ {w' : Str} {tk : Tok}, w' = repS z j.toNat → EP X pins σ Q (.str w' tk) s := fun {w' tk} e => ⟨.str w', H, I, ⟨_, rfl⟩, by rw [e]; exact q⟩
  refine PySem.P.mul_str ?_ (fun hn ho => ?_) (fun hn ho => ?_) ?_
  · rw [decide_eq_false (by omega), decide_eq_false (by omega)]
    rfl
  · have hj : 1 ≤ j := by omega
    have : (z.length : Int) ≤ 1000000 := by
      have h3 : z.length * 1 ≤ z.length * j.toNat := Nat.mul_le_mul_left _ (by omega)
      omega
    have h5 : (1000001 : Int) ≤ (2 ^ 63 - 1) / j := by
      refine Int.le_ediv_of_mul_le (by omega) ?_
      have : (1000001 : Int) * j ≤ 1000001 * 1000000 := Int.mul_le_mul_of_nonneg_left h2 (by decide)
      omega
    omega
  · unfold Builtin.Str.tooLong
    simp only [decide_eq_false_iff_not, Nat.not_lt]
    rw [sizeLine_eq]
    omega
  · by_cases hj : j < 1
    · rw [if_pos hj]
      refine ⟨by decide, fin ?_⟩
      have : j.toNat = 0 := by omega
      rw [this]
      rfl
    · rw [if_neg hj]
      by_cases ho : (j == 1 || z.length == 0) = true
      · rw [if_pos ho]
        refine fin0 ?_
        rcases Bool.or_eq_true_iff.mp ho with e | e
        · have : j = 1 := by simpa using e
          subst this
          exact (repS_one z).symm
        · exact (repS_empty (by simpa using e) _).symm
      · rw [if_neg ho]
        refine ⟨?_, fin ?_⟩
        · rw [flat_rep]
          show (List.replicate j.toNat z.cps.toList).flatten.toArray.size ≤ sizeLine
          rw [List.size_toArray, List.length_flatten, List.map_replicate, List.sum_replicate_nat, sizeLine_eq]
          have : z.cps.toList.length = z.length := by simp [Str.length]
          rw [this, Nat.mul_comm]
          omega
        · rw [flat_rep]
          rfl
def mulA : D → D → Option D
  | .int i, .int j => if CMul i j then some (.int (i * j)) else none
  | .str x, .int j => if 0 ≤ j ∧ x.length * j.toNat ≤ 1000000 ∧ j ≤ 1000000 then some (.str (repS x j.toNat)) else none
  | .list xs, .int j => if 0 ≤ j ∧ xs.length * j.toNat ≤ 1000000 ∧ j ≤ 1000000 then some (.list (List.replicate j.toNat xs).flatten) else none
  | _, _ => none
def rMulL : R2 := fun x y H Q => ∃ l k xs, x = .ref l ∧ y = .int k ∧ H l = some (.lst xs) ∧ -(2 ^ 63) ≤ k ∧ k < 2 ^ 63 ∧ xs.length * k.toNat ≤ sizeLine ∧
  ∀ p, H p = none → Q (.ref p) (upd H p (.lst (List.replicate k.toNat xs).flatten))
def mulG : D → D → Option D
  | .int i, .int j => if CMul i j then some (.int (i * j)) else none
  | .str x, .int j => if 0 ≤ j ∧ x.length * j.toNat ≤ 1000000 ∧ j ≤ 1000000 then some (.str (repS x j.toNat)) else none
  | _, _ => none
theorem b2_mul : B2 .pl (fun x y H Q => rI CMul (fun i j => .int (i * j)) x y H Q ∨ rMulS x y H Q) mulG := by
  intro H O x y dx dy d Q tr rx ry hf q
  cases dx <;> cases dy <;> simp only [mulG] at hf <;> try cases hf
  case int.int i j =>
    cases rx.int_inv; cases ry.int_inv
    split at hf <;> cases hf
    rename_i hc
    exact .inl ⟨i, j, rfl, rfl, hc, q H _ (Same.refl H) (.int _)⟩
  case str.int x j =>
    cases rx.str_inv; cases ry.int_inv
    split at hf <;> cases hf
    rename_i hc
    exact .inr ⟨x, j, rfl, rfl, hc.1, hc.2.1, hc.2.2, q H _ (Same.refl H) (.str _)⟩
theorem de_mul (ha : DE X G M ka a ma) (hb : DE X G M kb b mb) : DE X G M .pl (.BinOp a .Mult b pos) (m2 mulG ma mb) := de_op (op_mul.or op_mulS) b2_mul ha hb
/-! ### lists by + and slices, owned -/
def catD : D → D → Option D := fun x y => match x, y with | .list x, .list y => if x.length + y.length ≤ sizeLine then some (.list (x ++ y)) else none | _, _ => none
theorem de_cat (ha : DE X G M ka a ma) (hb : DE X G M kb b mb) : DE X G M .fr (.BinOp a .Add b pos) (m2 catD ma mb) := de_op op_cat2 b2_cat ha hb
def slLD : D → Option Int → Option Int → Option D := fun x lo hi => match x with | .list ds => some (.list (cut ds lo hi)) | _ => none
theorem de_slL {lo hi : Option Expr} {p2 : Pos} {ml mh : Env' → Res (Option Int)} (ha : DE X G M ka a ma) (hl : DO X G M lo ml) (hh : DO X G M hi mh) : DE X G M .fr (.Subscript a (.Slice lo hi none p2) pos) (m3 slLD ma ml mh) := de_slG sl_list s3_list ha hl hh
/-! ### name += e: ints, texts -/
def ipAddA : TIp := fun x y H Q => ipI (fun i j => i + j) x y H Q ∨ ∃ i j, x = .str i ∧ y = .str j ∧ i.length + j.length ≤ sizeLine ∧ Q (.str (i ++ j)) H
theorem pip_of {op : Operator} {r : TIp} (h : OpR X (inplaceOp op) r) : PIp X op r := by
  intro pins s σ H x y v u Q I rx ry q
  exact h pins s σ H x y v u Q I rx ry q
theorem ip_addA : PIp X .Add ipAddA := by
  intro pins s σ H x y v u Q I rx ry q
  rcases q with q | q
  · exact ip_add pins s σ H x y v u Q I rx ry q
  · exact pip_of iop_add_str pins s σ H x y v u Q I rx ry q
def augAdd : D → D → Option D
  | .int i, .int j => some (.int (i + j))
  | .str x, .str y => if x.length + y.length ≤ sizeLine then some (.str (x ++ y)) else none
  | _, _ => none
theorem i2_addA : I2 ipAddA augAdd := by
  intro H O x y dx dy d Q tr rx ry hf q
  cases dx <;> cases dy <;> simp only [augAdd] at hf <;> try cases hf
  case int.int i j =>
    cases rx.int_inv; cases ry.int_inv
    exact .inl ⟨_, _, rfl, rfl, q H _ (Same.refl H) (.int _)⟩
  case str.str i j =>
    cases rx; cases ry
    split at hf <;> cases hf
    rename_i hz
    exact .inr ⟨_, _, rfl, rfl, hz, q H _ (Same.refl H) (.str _)⟩
variable {ws : List Nat} {f : D → Env' → Option Env'} {nc : Env' → Res Bool}
/-- y = [..] on one line, y a local -/
theorem ds_setLc {elt tg iter : Expr} {ifs : List Expr} {scope : Scope} {own : List (Str × Nat)} {i : Nat} {y : Str} {py spos : Pos} (hx : mle M L.Mx = true) (hc : X.calm = true) (hN : X.N.Nodup) (hws : ∀ i ∈ ws, i ∈ own.map (·.2)) (hi : DIS X G M tg iter mi) (ok : BlkOk X.N X.env.scope scope own)
    (hg : ∀ (s : Shared) (H : Hp) (C : Addr) (cl : List (Str × Addr)) (fp : List Addr), DG (X.blk s H scope (compEnvC scope cl C X.env) fp) (wipeM M (own.map (·.2))) Mt ws tg f)
    (ht : ∀ (s : Shared) (H : Hp) (C : Addr) (cl : List (Str × Addr)) (fp : List Addr), DTs (X.blk s H scope (compEnvC scope cl C X.env) fp) G.blk Mt ifs nc)
    (he : ∀ (s : Shared) (H : Hp) (C : Addr) (cl : List (Str × Addr)) (fp : List Addr), DE (X.blk s H scope (compEnvC scope cl C X.env) fp) G.blk Mt .pl elt m)
    (hy : X.N[i]? = some y := by rfl) (hyl : X.env.scope.names.lookup y = some .local := by rfl)
    (hsw : swapsWith (.ListComp elt [⟨tg, iter, ifs, 0⟩] scope pos) (some (.Name y py)) spos.line X.env = pure true := by exact sw_true rfl rfl rfl (by decide +kernel)) (hs : ∀ x, foldedSetIterable iter X.env x = pure x := by intro _; rfl) :
    DS X G L M (M.set i .ow) (.Assign [.Name y py] (.ListComp elt [⟨tg, iter, ifs, 0⟩] scope pos) spos) (oSet i (mLc mi f nc m (own.map (·.2)))) := ds_setLcG hx hc hN hy hyl hws hsw hi ok hg ht he hs
end
end DL

namespace DL
open PySem PySem.Spec L2
/-! ### errors with one field, at -/
def spInit (K : PySem.W.Frag) : Sp := fun vs H Q _ => ∃ (a C : Addr) (v : V), vs = [.ref a, v] ∧ OexC K C ∧ PySem.W.findIn K (.ref C) "at" = some none ∧ H a = some (exo a C none) ∧
  ∀ dx, H dx = none → dx ≠ a → Q .non (upd (upd H dx (exd dx [(("at" : Str), v)])) a (exo a C (some dx)))
structure ErrF (K : PySem.W.Frag) (mg : Str → Option Value) (x : Str) (C fI : Addr) : Prop where
  g : mg x = some (.ref C)
  t : OexC K C
  i : PySem.W.findIn K (.ref C) "__init__" = some (some (.ref fI))
  n : PySem.W.findIn K (.ref C) "at" = some none
def oRaise (c : Str) (m : Env' → Res D) : Env' → Out := fun env => exOut (m env) env fun d => .exc c d env
section
variable {X : Cx} {G : Gd} {L : Lp} {M M' Mt : List Md} {k ka kb kc : Kd} {a b c e : Expr} {m ma mb mc : Env' → Res D} {ms mi : Env' → Res (List D)} {pos : Pos}
theorem ds_raise {x : Str} {C fI : Addr} {fd : FuncData} {lv : Nat} {ps : List Str} {p pos2 : Pos} (hc : X.calm = true) (Er : ErrF X.K X.mg x C fI) (tI : PySem.W.typeIn X.K (.ref fI) = some (.type "function")) (F1 : FnOk X.prog X.w X.K X.mg X.base (L2.CX X.prog X.w) lv fI fd ps (spInit X.K)) (hr : Room (lv + 1) X.A) (hb : Binds X.K fd ps [])
    (tk : Takes X G.W) (hx : mle M L.Mx = true) (hg : Gl X x) (hG : G.mg x = some (.ref C)) (ha : DE X G M .pl e m) (hdb : (x == ("__debug__" : Str)) = false := by decide) (he : starEach [e] X.env = [(false, eval e X.env)] := by rfl) :
    DS X G L M M' (.Raise (some (.Call (.Name x p) [e] [] pos)) none pos2) (oRaise x m) :=
  ps_imp (L2.ps_raise hc tk (pmk_oex Er.t Er.i tI F1 hr hb .nil passL hg Er.g (da_cons ha da_nil he) hdb he rfl)) fun E σ H h => by
    obtain ⟨g, O, env, sr, q⟩ := tS_iff.mp h
    refine ⟨g, O, env, sr, ?_⟩
    unfold oRaise at q
    unfold aCons aNil
    cases h : m env with
    | err => rw [h] at q; exact q
    | exc c d =>
      rw [h] at q
      exact fun H' dd cls va s h1 h2 h3 => q σ H' O dd cls va (Sub.same s O) ((sr.grow s).weak hx) h1 h2 h3
    | ok d =>
      rw [h, exOut_ok] at q
      simp only [Res.bind_ok]
      intro H1 vs s r
      have r : RpA H1 O [d] vs := r
      cases r with
      | cons r1 r2 =>
        cases r2
        rename_i v
        refine ⟨Nat.succ_le_of_lt (Nat.zero_lt_succ 999), fun a ha => ⟨a, C, v, rfl, Er.t, Er.n, upd_same, fun dx hdx ne => ?_⟩⟩
        have hd1 : H1 dx = none := by rw [upd_ne ne] at hdx; exact hdx
        have e1 : upd (upd (upd H1 a (exo a C none)) dx (exd dx [(("at" : Str), v)])) a (exo a C (some dx)) dx = some (exd dx [(("at" : Str), v)]) := by rw [upd_ne ne, upd_same]
        refine ⟨rfl, dx, _, upd_same, e1, hd1, ?_⟩
        have sm : Same H1 (upd (del (upd (upd (upd H1 a (exo a C none)) dx (exd dx [(("at" : Str), v)])) a (exo a C (some dx))) a) dx (.xd [(("at" : Str), v)])) := fun b u e => by
          have n1 : b ≠ dx := ne_of_none e hd1
          have n2 : b ≠ a := ne_of_none e ha
          rw [upd_ne n1, del_ne n2, upd_ne n2, upd_ne n1, upd_ne n2]
          exact e
        exact q σ _ O dx (.ref C) v (Sub.same (s.trans sm) O) ((sr.grow (s.trans sm)).weak hx) hG upd_same (r1.mono (Sub.same sm O))

/-! ### try -/
theorem SR.reground {H0 H H2 : Hp} {O0 O O2 : AS} {M N : List Md} {env env2 : Env'} {σ σ2 : L2.St} (r : SR H0 O0 M O env σ H) (r2 : SR H O N O2 env2 σ2 H2) : SR H0 O0 N O2 env2 σ2 H2 where
  same := r.same.trans r2.same
  sub0 := fun a h => r2.sub0 a (r.sub0 a h)
  tr := r2.tr
  new := fun a h => by
    rcases r2.new a h with z | z
    · exact r.new a z
    · exact .inr (r.same.free z)
  len := r2.len
  fz := r2.fz
  ow := fun i d hm he => by
    obtain ⟨a, ea, oa, na, ra⟩ := r2.ow i d hm he
    exact ⟨a, ea, oa, fun z => na (r.sub0 a z), ra⟩
  dist := r2.dist
  exs := r2.exs
/-- the modes without what is owned -/
def noOw : List Md → List Md
  | [] => []
  | .ow :: ms => .un :: noOw ms
  | m :: ms => m :: noOw ms
theorem noOw_get : ∀ {M : List Md} {i : Nat} {md : Md}, (noOw M)[i]? = some md → md ≠ .un → M[i]? = some md ∧ md ≠ .ow
  | [], i, md, h, _ => by simp [noOw] at h
  | .ow :: ms, 0, md, h, u => by
    simp [noOw] at h
    exact absurd h.symm u
  | .fz :: ms, 0, md, h, u => by
    simp [noOw] at h
    subst h
    simp
  | .un :: ms, 0, md, h, u => by
    simp [noOw] at h
    exact absurd h.symm u
  | .ex b :: ms, 0, md, h, u => by
    simp [noOw] at h
    subst h
    simp
  | .ex b :: ms, i + 1, md, h, u => by
    simp only [noOw, List.getElem?_cons_succ] at h ⊢
    exact noOw_get h u
  | .ow :: ms, i + 1, md, h, u => by
    simp only [noOw, List.getElem?_cons_succ] at h ⊢
    exact noOw_get h u
  | .fz :: ms, i + 1, md, h, u => by
    simp only [noOw, List.getElem?_cons_succ] at h ⊢
    exact noOw_get h u
  | .un :: ms, i + 1, md, h, u => by
    simp only [noOw, List.getElem?_cons_succ] at h ⊢
    exact noOw_get h u
/-- a new ground; slot i forgotten -/
theorem SR.newground {H0 H : Hp} {O0 O : AS} {M : List Md} {env : Env'} {σ : L2.St} {a : Addr} (i : Nat) (r : SR H0 O0 M O env σ H) (hi : i < σ.length) : SR H O ((noOw M).set i (.ex a)) O (env.set i none) (σ.set i (some (.ref a))) H where
  same := Same.refl H
  sub0 := fun _ h => h
  tr := r.tr
  new := fun _ h => .inl h
  len := by simpa using r.len
  fz := fun j d hm he => by
    have ne : j ≠ i := fun z => by
      subst z
      obtain ⟨hlt, _⟩ := List.getElem?_eq_some_iff.mp he
      rw [List.getElem?_set_self (by simpa using hlt)] at he; cases he
    rw [List.getElem?_set_ne (Ne.symm ne)] at hm he ⊢
    exact r.fz j d (noOw_get hm (by simp)).1 he
  ow := fun j d hm he => by
    have ne : j ≠ i := fun z => by
      subst z
      obtain ⟨hlt, _⟩ := List.getElem?_eq_some_iff.mp he
      rw [List.getElem?_set_self (by simpa using hlt)] at he; cases he
    rw [List.getElem?_set_ne (Ne.symm ne)] at hm
    exact absurd rfl (noOw_get hm (by simp)).2
  dist := fun j l d e a hm _ he => by
    have ne : j ≠ i := fun z => by
      subst z
      obtain ⟨hlt, _⟩ := List.getElem?_eq_some_iff.mp he
      rw [List.getElem?_set_self (by simpa using hlt)] at he; cases he
    rw [List.getElem?_set_ne (Ne.symm ne)] at hm
    exact absurd rfl (noOw_get hm (by simp)).2
  exs := fun j b hm => by
    by_cases ne : j = i
    · subst ne
      rw [List.getElem?_set_self hi]
      obtain ⟨hlt, _⟩ := List.getElem?_eq_some_iff.mp hm
      rw [List.getElem?_set_self (by simpa using hlt)] at hm
      cases hm; rfl
    · rw [List.getElem?_set_ne (Ne.symm ne)] at hm ⊢
      exact r.exs j b (noOw_get hm (by simp)).1
theorem SR.drop {H0 H : Hp} {O0 O : AS} {M : List Md} {env : Env'} {σ : L2.St} (i : Nat) (v : Option V) (r : SR H0 O0 M O env σ H) : SR H0 O0 (M.set i .un) O (env.set i none) (σ.set i v) H where
  same := r.same
  sub0 := r.sub0
  tr := r.tr
  new := r.new
  len := by simpa using r.len
  fz := fun j d hm he => by
    have ne : j ≠ i := fun z => by
      subst z
      obtain ⟨hlt, _⟩ := List.getElem?_eq_some_iff.mp he
      rw [List.getElem?_set_self (by simpa using hlt)] at he; cases he
    rw [List.getElem?_set_ne (Ne.symm ne)] at hm he ⊢
    exact r.fz j d hm he
  ow := fun j d hm he => by
    have ne : j ≠ i := fun z => by
      subst z
      obtain ⟨hlt, _⟩ := List.getElem?_eq_some_iff.mp he
      rw [List.getElem?_set_self (by simpa using hlt)] at he; cases he
    rw [List.getElem?_set_ne (Ne.symm ne)] at hm he ⊢
    exact r.ow j d hm he
  dist := fun j l d e a h1 h2 h3 h4 h5 h6 => by
    have ne : ∀ {x : Nat} {y : D}, (env.set i none)[x]? = some (some y) → x ≠ i := fun {x y} he z => by
      subst z
      obtain ⟨hlt, _⟩ := List.getElem?_eq_some_iff.mp he
      rw [List.getElem?_set_self (by simpa using hlt)] at he; cases he
    have n1 := ne h3
    have n2 := ne h4
    rw [List.getElem?_set_ne (Ne.symm n1)] at h1 h3 h5
    rw [List.getElem?_set_ne (Ne.symm n2)] at h2 h4 h6
    exact r.dist j l d e a h1 h2 h3 h4 h5 h6
  exs := fun j a hm => by
    have ne : j ≠ i := fun z => by
      subst z
      obtain ⟨hlt, _⟩ := List.getElem?_eq_some_iff.mp hm
      rw [List.getElem?_set_self (by simpa using hlt)] at hm; cases hm
    rw [List.getElem?_set_ne (Ne.symm ne)] at hm ⊢
    exact r.exs j a hm
theorem RK.reground {k : Kd} {H0 H H' : Hp} {O0 O : AS} {M : List Md} {env : Env'} {σ : L2.St} {d : D} {v : V} (r : SR H0 O0 M O env σ H) (q : RK k H O H' d v) : RK k H0 O0 H' d v := by
  cases k with
  | pl => exact Rp.mono (Sub.less r.sub0) q
  | co =>
    have q : Rc H' O d v := q
    show Rc H' O0 d v
    cases q with
    | of q => exact .of (Rp.mono (Sub.less r.sub0) q)
    | rt q2 => exact .rt (Rt.mono (Sub.less r.sub0) rfl q2)
  | fr =>
    obtain ⟨a, e, n, q⟩ := q
    exact ⟨a, e, r.same.free n, q.mono (Sub.less fun b z => z.elim (fun z => .inl (r.sub0 b z)) .inr) rfl⟩
  | lf =>
    rcases q with ⟨q, z⟩ | ⟨a, e, n, q⟩
    · exact .inl ⟨Rp.mono (Sub.less r.sub0) q, z⟩
    · exact .inr ⟨a, e, r.same.free n, q.mono (Sub.less fun b z => z.elim (fun z => .inl (r.sub0 b z)) .inr) rfl⟩
/-- what becomes of a suite's outcome, slot i emptied behind it -/
def suOut (i : Nat) : Out → Out
  | .nx e => .nx (e.set i none)
  | .bk e => .bk (e.set i none)
  | .ct e => .ct (e.set i none)
  | .exc _ _ _ => .err
  | x => x
def oTry (i : Nat) (h : Str → Option Bool) (o : Env' → Out) (su : Str → D → Env' → Out) : Env' → Out := fun env => match o env with
  | .exc c d e1 => match h c with
    | some true => if i < e1.length then suOut i (su c d (e1.set i none)) else .err
    | some false => .exc c d e1
    | none => .err
  | x => x
theorem ds_tryAs {i : Nat} {n x : Str} {cv : Value} {body suite : List Stmt} {b₀ : Stmt} {np pos' : Pos} {h : Str → Option Bool} {o : Env' → Out} {su : Str → D → Env' → Out} {M2 : List Md} (hstk : X.stack = X.env :: X.outer) (hf : X.env.frame = some X.env.locals) (hN : X.N.Nodup) (hi : X.N[i]? = some n) (hln : X.env.kindOf n = some .local)
    (hcN : Names X x cv) (tk : Takes X G.W) (hx : mle Mt L.Mx = true) (hh : ∀ cn b, h cn = some b → ∀ cls, G.mg cn = some cls → PySem.W.exmOne X.K cls cv = some b) (hM : mle (M2.set i .un) M' = true) (hMb : mle (L.Mb.set i .un) L.Mb = true)
    (hb : ∀ (W : WX) (pn : List (Addr × Obj)) (xe : Value → Shared → Prop), Takes (X.tr pn xe) W → PassesOwn (model X.prog X.w) X.A X.env xe → DSs (X.tr pn xe) ⟨W, G.mg, G.ex⟩ { L with Mx := Mt } M M' body o)
    (hsu : ∀ (cn : Str) (dat : D) (a : Addr) (oe : Obj) (cls : Value) (dd : Addr) (pn : List (Addr × Obj)), h cn = some true → G.mg cn = some cls → Zc cls (some dd) oe → (∃ vs, oe.data = .fields vs) → DSs (X.suite a ((a, oe) :: pn)) ⟨fun _ _ _ _ => False, G.mg, some (dd, dat)⟩ ⟨L.Mb, [], L.kr⟩ ((noOw Mt).set i (.ex a)) M2 (b₀ :: suite) (su cn dat)) :
    DS X G L M M' (.Try body [.ExceptHandler (some (.Name x np)) (some n) (b₀ :: suite) pos'] [] [] pos) (oTry i h o su) := by
  refine ps_imp (L2.ps_try_as (tb := fun W => tS ⟨W, G.mg, G.ex⟩ { L with Mx := Mt } M M' o)
    (ts := fun a cls d E σ H => ∃ (cn : Str) (dat : D) (dd : Addr), d = some dd ∧ h cn = some true ∧ G.mg cn = some cls ∧ tS ⟨fun _ _ _ _ => False, G.mg, some (dd, dat)⟩ ⟨L.Mb, [], L.kr⟩ ((noOw Mt).set i (.ex a)) M2 (su cn dat) E σ H)
    hstk hf hN hi hln hcN tk hb fun a oe cls d pn hz hv => ⟨fun pins s σ H D I ⟨cn, dat, dd, e, h1, h2, q⟩ => by subst e; exact (hsu cn dat a oe cls dd pn h1 h2 hz hv).run pins s σ H D I q⟩) fun E σ H hq => ?_
  obtain ⟨g, O, env, sr, q⟩ := tS_iff.mp hq
  refine tS_iff.mpr ⟨g, O, env, sr, ?_⟩
  unfold oTry at q
  cases ho : o env with
  | nx e => rw [ho] at q; exact q
  | rt d => rw [ho] at q; exact q
  | bk e => rw [ho] at q; exact q
  | ct e => rw [ho] at q; exact q
  | err => rw [ho] at q; exact q
  | exc cn dat e1 =>
    rw [ho] at q
    simp only at q
    intro σ' H' O' dd cls va sub sr' hmg hxd hrp
    cases hhc : h cn with
    | none => rw [hhc] at q; exact q.elim
    | some bb =>
      rw [hhc] at q
      cases bb with
      | false => exact ⟨false, hh cn _ hhc cls hmg, (fun z => nomatch z), fun _ => q σ' H' O' dd cls va sub (sr'.weak hx) hmg hxd hrp⟩
      | true =>
        try simp only at q
        by_cases hil' : i < e1.length
        case neg => rw [if_neg hil'] at q; exact q.elim
        rw [if_pos hil'] at q
        have hil : i < σ'.length := by rw [← sr'.len]; exact hil'
        refine ⟨true, hh cn _ hhc cls hmg, fun _ a ha => ⟨cn, dat, dd, rfl, hhc, hmg, ?_⟩, fun z => nomatch z⟩
        refine tS_iff.mpr ⟨⟨H', O', fun p hp => by cases hp; exact ⟨va, hxd, hrp⟩⟩, O', e1.set i none, sr'.newground i hil, ?_⟩
        have q := OutOk.sub sub q
        try simp only at q
        cases hs : su cn dat (e1.set i none) with
        | nx e2 =>
          rw [hs] at q
          exact fun σ2 H2 O2 s2 r2 => q _ H2 O2 s2 (((sr'.reground r2).drop i none).weak hM)
        | rt d =>
          rw [hs] at q
          exact fun H2 v s2 r2 => q H2 v (sr'.same.trans s2) (RK.reground sr' r2)
        | bk e2 =>
          rw [hs] at q
          exact fun σ2 H2 O2 s2 r2 => q _ H2 O2 s2 (((sr'.reground r2).drop i none).weak hMb)
        | ct e2 =>
          rw [hs] at q
          exact fun σ2 H2 O2 s2 r2 => q _ H2 O2 s2 (((sr'.reground r2).drop i none).weak hMb)
        | exc c d e => rw [hs] at q; exact q.elim
        | err => rw [hs] at q; exact q.elim
/-- e.at, e the caught error -/
theorem Rp.ground {H0 H : Hp} {O0 O : AS} {M : List Md} {env : Env'} {σ : L2.St} {d : D} {v : V} {g0 : Hp} {o0 : AS} (r : SR g0 o0 M O env σ H) (q : Rp g0 o0 d v) : Rp H O d v :=
  q.mono ⟨fun a u ha hr => ⟨rd_same r.same hr, fun z => by
    rcases r.new a z with w | w
    · exact ha w
    · exact rd_ne_none hr w⟩, fun a o u _ e => r.same _ _ e⟩
theorem de_at {a C dd : Addr} {oe : Obj} {cls : Value} {pn : List (Addr × Obj)} {i : Nat} {dat : D} {ex : Expr} {mg : Str → Option Value} {W : WX} (Xf : XfC X.K C) (hno : PySem.W.findIn X.K (.ref C) "at" = some none) (hz : Zc cls (some dd) oe) (hf : ∃ vs, oe.data = .fields vs) (hcl : cls = .ref C)
    (he : PE (X.suite a ((a, oe) :: pn)) ex (tVar i)) (hm : M[i]? = some (.ex a)) (hb : attributeBase ex "at" X.env (eval ex X.env) = eval ex X.env := by rfl) :
    DE (X.suite a ((a, oe) :: pn)) ⟨W, mg, some (dd, dat)⟩ M .pl (.Attribute ex "at" pos) (mC dat) := pe_imp (pe_xf Xf hno hz hf he hb) fun σ H Q ⟨g, O, env, sr, q⟩ => by
  obtain ⟨va, hxd, hrp⟩ := g.hex _ rfl
  refine ⟨_, sr.exs i a hm, rfl, hcl, dd, _, va, rfl, sr.same _ _ hxd, by simp [List.lookup], q H _ (Same.refl H) (Rp.ground (H0 := H) (O0 := O) sr hrp)⟩
end
end DL

namespace DL
open PySem PySem.Spec L2
/-- what the written part says of an error's class, for a suite -/
structure ExK (K : PySem.W.Frag) (C : Addr) : Prop where
  cl : (PySem.W.clsIn K C).isSome = true
  ga : PySem.W.findIn K (.ref C) "__getattribute__" = some (some (.builtin "BaseException.__getattribute__"))
  gg : PySem.W.findIn K (.ref C) "__getattr__" = some none
  ex : PySem.W.subIn K (.ref C) (.type "BaseException") = some true
  hd : PySem.W.hasDictIn K C = true
  ca : PySem.W.findIn K (.ref C) "__class__" = some (some (.builtin "object.__class__"))
  sp : PySem.W.specialIn K (.builtin "object.__class__") "__get__" = some (some (.builtin "getset_descriptor.__get__"))
  tk : PySem.W.takesIn K (.builtin "object.__class__") = some true
  mo : PySem.W.mroIn K C (.type "object") = some true
  na : PySem.W.findIn K (.ref C) "at" = some none
theorem ExK.xf {K : PySem.W.Frag} {C : Addr} (h : ExK K C) : XfC K C := ⟨h.ga, h.gg, h.ex, h.hd⟩
section
variable {X : Cx} {M : List Md} {pos : Pos}
/-- isinstance(e, c), e the caught error -/
def rIsD (K : PySem.W.Frag) (C a dd : Addr) : List V → Hp → VK → Prop := fun xs H Q => ∃ (C2 : Addr) (b : Bool) (fs : List (Str × V)), xs = [.ref a, .ref C2] ∧ PySem.W.kitOne K (.ref C) (.ref C2) = some b ∧ H dd = some (.xd fs) ∧ Q (.bl b) H
theorem call_isD {a C dd : Addr} {oe : Obj} {pn : List (Addr × Obj)} (T : ExK X.K C) (hz : Zc (.ref C) (some dd) oe) (hf : ∃ vs, oe.data = .fields vs) : CallR (X.suite a ((a, oe) :: pn)) (.builtin "isinstance") (rIsD X.K C a dd) := by
  intro pins s σ H xs us Q I r h
  obtain ⟨C2, b, fs, rfl, e, hxd, q⟩ := h
  obtain ⟨u1, u2, rfl, r1, r2⟩ := vals2 r
  cases r1
  cases r2
  obtain ⟨hget, _⟩ := I.pin (a, oe) (List.mem_append_left _ List.mem_cons_self)
  have hx : ObjOk X.prog X.w H s.heap dd (.xd fs) := I.hok dd _ hxd
  obtain ⟨mA, hns, _⟩ := hx
  obtain ⟨od, _, _, ho, _⟩ := id hns
  have J : PySem.W.InstAt s.heap a oe C (some od) := by
    obtain ⟨vs, hv⟩ := hf
    refine ⟨hget, hz.1, ?_, ?_⟩
    · unfold PySem.W.notCls
      rw [hv] <;> rfl
    · rw [hz.2]; exact ho
  exact PySem.W.kia_one (PySem.W.kitx_exc (od := some od) T.cl T.ga T.gg T.ex T.ca T.sp T.tk T.mo) I.kIn J e (fun z => nomatch z) fun tk => ⟨.bl b, H, I.tok tk, rfl, q⟩
theorem de_isE {a C C2 dd : Addr} {oe : Obj} {pn : List (Addr × Obj)} {i : Nat} {dat : D} {cls : Value} {n x2 : Str} {mg : Str → Option Value} {W : WX} {p p2 p3 : Pos} {b : Bool} (T : ExK X.K C) (hz : Zc cls (some dd) oe) (hf : ∃ vs, oe.data = .fields vs) (hcl : cls = .ref C)
    (hk : PySem.W.kitOne X.K (.ref C) (.ref C2) = some b) (he : PE (X.suite a ((a, oe) :: pn)) (.Name n p2) (tVar i)) (hm : M[i]? = some (.ex a))
    (hg : Gl (X.suite a ((a, oe) :: pn)) "isinstance") (hmi : X.mg "isinstance" = none) (hg2 : Gl (X.suite a ((a, oe) :: pn)) x2) (hm2 : X.mg x2 = some (.ref C2))
    (hs : starEach [.Name n p2, .Name x2 p3] X.env = [(false, eval (.Name n p2) X.env), (false, eval (.Name x2 p3) X.env)] := by rfl) (hs2 : starEach [.Name x2 p3] X.env = [(false, eval (.Name x2 p3) X.env)] := by rfl) (hdb : (x2 == ("__debug__" : Str)) = false := by decide) :
    DE (X.suite a ((a, oe) :: pn)) ⟨W, mg, some (dd, dat)⟩ M .pl (.Call (.Name "isinstance" p) [.Name n p2, .Name x2 p3] [] pos) (mC (.bool b)) := by
  subst hcl
  have hp : PE (X.suite a ((a, oe) :: pn)) (.Name x2 p3) (tC (.ref C2)) := pe_glob hg2 hm2 rfl hdb
  refine pe_imp (pe_callB (call_isD T hz hf) hg hmi bt_isinstance (pa_cons he (pa_cons hp pa_nil hs2) (by show starEach [.Name n p2, .Name x2 p3] X.env = _; rw [hs]; show _ = _ :: starEach [.Name x2 p3] X.env; rw [hs2]) )
    (he := by show starEach [.Name n p2, .Name x2 p3] X.env = _; rw [hs]; show _ = _ :: starEach [.Name x2 p3] X.env; rw [hs2]) (hpl := by show (backTo pos (starEach [.Name x2 p3] X.env)).any _ = _; rw [hs2]; rfl)) fun σ H Q ⟨g, O, env, sr, q⟩ => ?_
  obtain ⟨va, hxd, hrp⟩ := g.hex _ rfl
  exact ⟨_, sr.exs i a hm, C2, b, _, rfl, hk, sr.same _ _ hxd, q H _ (Same.refl H) (.bl b)⟩
/-- which class an except clause takes -/
theorem exm_of {K : PySem.W.Frag} {C D : Addr} {b : Bool} (h1 : PySem.W.subIn K (.ref C) (.type "BaseException") = some true) (hd : PySem.W.hasDictIn K C = true) (ht : PySem.W.typeIn K (.ref C) = some (.type "type")) (h4 : PySem.W.subIn K (.ref D) (.ref C) = some b) :
    PySem.W.exmOne K (.ref D) (.ref C) = some b := PySem.W.exm_ref h1 hd ht h4
end
end DL

namespace DL
open PySem PySem.Spec L2
theorem hr66 {k : Nat} {A : Around} (hr : Room k A) : A.units + 66 < cLine := by have := hr.un; omega
/-! ### repr, where nothing is being shown -/
def reprOk (d : D) : Bool := PyData.canLay0 d && PyData.showable d && decide (d.depth ≤ 64) && decide (d.shown.length ≤ sizeLine)
def reprD : List D → Option D
  | [d] => if reprOk d = true then some (.str d.shown) else none
  | _ => none
section
variable {X : Cx} {G : Gd} {L : Lp} {M : List Md} {k : Kd} {e : Expr} {m : Env' → Res D} {ms : Env' → Res (List D)} {pos : Pos}
def rRepr (K : PySem.W.Frag) : List V → Hp → VK → Prop := fun xs H Q => ∃ (v : V) (d : D), xs = [v] ∧ Dp K H v d ∧ reprOk d = true ∧ Q (.str d.shown) H
theorem call_reprD (hg : X.A.guards = some []) (hu : X.A.units + 66 < cLine) : CallR X (.builtin "repr") (rRepr X.K) := by
  intro pins s σ H xs us Q I r h
  obtain ⟨v, d, rfl, hd, hk, q⟩ := h
  obtain ⟨u, rfl, ru⟩ := vals1 r
  unfold reprOk at hk
  simp only [Bool.and_eq_true, decide_eq_true_eq] at hk
  obtain ⟨⟨⟨h1, h2⟩, h3⟩, h4⟩ := hk
  cases hd with
  | non => cases ru; exact PySem.P.repr_of_none ⟨.str _, H, I.tok _, ⟨_, rfl⟩, q⟩
  | bl b => cases ru; exact PySem.P.repr_of_bool ⟨.str _, H, I.tok _, ⟨_, rfl⟩, q⟩
  | int i =>
    obtain ⟨t, rfl⟩ := ru
    exact PySem.P.repr_of_int (by simpa [PyData.showable] using h2) ⟨.str _, H, I.tok _, ⟨_, rfl⟩, q⟩
  | str x =>
    obtain ⟨t, rfl⟩ := ru
    exact PySem.P.repr_of_str ⟨.str _, H, I.tok _, ⟨_, rfl⟩, q⟩ h4
  | @lst a xs ds hs ha =>
    obtain ⟨as, rd⟩ := Dp.reads I (.list ds) (.ref a) u (.lst hs ha) ru
    cases ru
    exact PySem.repr_of_reads' rd h2 (PyData.noDict_hsm (PyData.hasDict_of_canLay _ h1)) hg (by omega) (fun _ _ e => e) (fun h' u tk hk => ⟨.str _, H, I.kept (t' := tk) hk, ⟨_, rfl⟩, q⟩) h4
  | @tup a xs ds hs ha =>
    obtain ⟨as, rd⟩ := Dp.reads I (.tuple ds) (.ref a) u (.tup hs ha) ru
    cases ru
    exact PySem.repr_of_reads' rd h2 (PyData.noDict_hsm (PyData.hasDict_of_canLay _ h1)) hg (by omega) (fun _ _ e => e) (fun h' u tk hk => ⟨.str _, H, I.kept (t' := tk) hk, ⟨_, rfl⟩, q⟩) h4
theorem cb_repr {K : PySem.W.Frag} : CB .pl .co (rRepr K) reprD := by
  intro H O vs ds d Q tr r hf q
  unfold reprD at hf
  split at hf
  · rename_i x
    by_cases hk : reprOk x = true
    · rw [if_pos hk] at hf
      cases hf
      obtain ⟨v, rfl, r1⟩ := RcA.one r
      have hk' := hk
      unfold reprOk at hk'
      simp only [Bool.and_eq_true] at hk'
      exact ⟨v, x, rfl, r1.dp hk'.1.1.1, hk, q H _ (Same.refl H) (.str _)⟩
    · rw [if_neg hk] at hf
      cases hf
  · cases hf
end

theorem kit_self {K : PySem.W.Frag} {C : Addr} : PySem.W.kitOne K (.ref C) (.ref C) = some true := by
  unfold PySem.W.kitOne
  simp
theorem kit_cls {K : PySem.W.Frag} {C D : Addr} {b : Bool} (hn : (Value.ref C == Value.ref D) = false) (ic : (PySem.W.clsIn K D).isSome = true) (ty : PySem.W.typeIn K (.ref D) = some (.type "type")) (h : PySem.W.subIn K (.ref C) (.ref D) = some b) : PySem.W.kitOne K (.ref C) (.ref D) = some b := by
  unfold PySem.W.kitOne PySem.W.kitCls
  rw [hn]
  simp [ic, ty, h]
theorem nolist_of {K : PySem.W.Frag} (h : (K.all fun p => !(p.2.cls == .type "list")) = true) {b : Addr} {ob : Obj} (e : K.lookup b = some ob) (z : ob.cls = .type "list") : False := by
  induction K with
  | nil => cases e
  | cons p K ih =>
    rw [List.all_cons, Bool.and_eq_true] at h
    obtain ⟨a, o⟩ := p
    rw [List.lookup_cons] at e
    split at e
    · cases e
      have h1 := h.1
      simp [z] at h1
    · exact ih h.2 e
/-! ### the law's own call -/
theorem rpA_ints (H : Hp) (O : AS) : ∀ ns : List Int, RpA H O (ns.map .int) (ns.map V.int)
  | [] => .nil
  | n :: ns => .cons (.int n) (rpA_ints H O ns)
theorem attach_go {P : Program} {w : World} {K : PySem.W.Frag} {mg mb : Str → Option Value} {fa a : Addr} {fd : FuncData} {qual : Str} {st : Stmt} {N : List Str} {s₁ : Shared} {vs : List Value} {ns : List Int} {M1 : List Md} {o : Env' → Out}
    (nolist : ∀ b ob, K.lookup b = some ob → ob.cls ≠ .type "list") (F : Fun K "law" qual st fa fd) (S : FnScope N ["script"] (defScope st)) (hN : 1 ≤ N.length)
    (hbind : ∀ (s : Shared) (u : Value), BindsTo s fd ⟨[u], []⟩ [("script", u)])
    (hbody : ∀ (base : Heap) (cdv : Value) (s : Shared) (H : Hp), K.In base → base.Ns mainGlobals mg →
      DSs (cxOf (L2.CX P w) P w K mg base N qual (defScope st) fa cdv callerA [] s H fun _ _ _ => False) ⟨wE fun _ _ _ => False, mg, none⟩ ⟨[], [], .pl⟩ (mode0 N.length 1) M1 (defBody st) o)
    (hval : runD .pl N.length o [.list (ns.map .int)] = .ok (.bool true))
    (KX : K.In s₁.heap) (hns : s₁.heap.Ns mainGlobals mg) (hb : s₁.heap.Ns builtinsNs mb) (hbb : ∀ x : Str, x ≠ "__name__" → mb x = bootBuiltins x) (hlim : s₁.heap.NoLimit) (hg : s₁.gens = #[])
    (ha : s₁.heap.get? a = some { cls := .type "list", data := .seq vs.toArray }) (hi : PyProof.Rows.IntsAre vs ns) (hl : ns.length ≤ sizeLine) :
    codeAny (model P w) callerA (.call (.ref fa) ⟨[.ref a], []⟩) (fun r s' => r = .ok (.ret (.bool true)) ∧ OldK s₁.heap s'.heap ∧ s'.os = s₁.os ∧ PyProof.Rows.AllBare s'.gens) s₁ := by
  -- what is tracked: the script alone, locked
  let so : Obj := { cls := .type "list", data := .seq vs.toArray }
  let H : Hp := fun b => if b = a then some (.frz so (.lst (ns.map V.int))) else none
  have hHa : H a = some (.frz so (.lst (ns.map V.int))) := if_pos rfl
  have hHo : ∀ b, b ≠ a → H b = none := fun b hb => if_neg hb
  have hKa : K.lookup a = none := by
    cases e : K.lookup a with
    | none => rfl
    | some ob =>
      have e1 := KX a ob e
      rw [ha] at e1
      have e2 : so = ob := Option.some.inj e1
      exact absurd (by rw [← e2]) (nolist a ob e)
  have hrv : Vals (ns.map V.int) vs := L2.vals_ints hi
  have hz : (ns.map V.int).length ≤ sizeLine := by rw [List.length_map]; exact hl
  have hok : HOk P w H s₁.heap := fun b u e => by
    by_cases hb : b = a
    · subst hb
      rw [hHa] at e
      cases e
      exact ⟨ha, hz, vs, _, hrv, ha⟩
    · rw [hHo b hb] at e
      cases e
  -- the ground: all else
  have toB : ∀ {b : Addr} {ob : Obj}, b ≠ a → s₁.heap.get? b = some ob → (hidT s₁.heap H).get? b = some ob := fun {b ob} hb e => hidT_get e (hHo b hb)
  have dictB : ∀ {b : Addr} {mm : Str → Option Value}, s₁.heap.Ns b mm → (hidT s₁.heap H).Ns b mm := fun {b mm} ⟨ob, es, ep, e, hd, rest⟩ => by
    refine ⟨ob, es, ep, toB (fun hb => ?_) e, hd, rest⟩
    subst hb
    rw [ha] at e
    have e2 : so = ob := Option.some.inj e
    subst e2
    cases hd
  have hKb : K.In (hidT s₁.heap H) := fun b ob e => toB (fun hb => by subst hb; rw [hKa] at e; cases e) (KX b ob e)
  have hM : L2.Mod K mg (hidT s₁.heap H) := ⟨hKb, dictB hns, ⟨mb, dictB hb, hbb⟩, by
    obtain ⟨mc, l1, l2⟩ := hlim
    exact ⟨mc, dictB l1, l2⟩⟩
  have e0 : Env0 P w K mg (hidT s₁.heap H) callerA [] s₁ H :=
    { frames := rfl, mod := hM, bs := fun b ob e => of_hidT e, bsz := Nat.le_of_eq (hidT_size _ _), funs := trivial, frf := (fun b z => nomatch z), hok := hok, bare := .of_eq hg }
  obtain ⟨oc, od, kV, doc, pm, an, cdv, ct, osl, rfl, lk, hcode⟩ := F.ex
  have kinds : ∀ y ∈ [("script" : Str)].zip [Value.ref a], (defScope st).names.lookup y.1 = some .local ∨ ((defScope st).names.lookup y.1 = some .cell ∧ ((cellsFrom (s₁.heap.objs.size + 1) (defScope st).names []).lookup y.1).isSome = true) := fun y hy => by
    have hy1 : y.1 ∈ [("script" : Str)] := (List.of_mem_zip (a := y.1) (b := y.2) hy).1
    exact (S.par y.1 hy1).imp id fun q => ⟨q, PySem.W.cellsFrom_some _ _ _ (.inl q)⟩
  refine codeAny_call_function (by decide) (KX _ _ lk) rfl S.co S.gen rfl (PySem.W.codeRec_of KX hcode) (hbind s₁ (.ref a) _ _ _ _ ?_)
  refine wpAny_newFunctionEnv_cells S.kind kinds fun env henv s1 inc => ?_
  subst henv
  refine ⟨hlim.keeps inc.toInCall.keep, codeAny_func ?_⟩
  have I := inv_start (CX := L2.CX P w) (E := fun _ _ _ => False) S (rfl : callerA.handled = none) e0 (rfl : [V.ref a].length = 1) (.cons rfl .nil) inc
  have rs : RpA H (fun _ => False) [.list (ns.map .int)] [.ref a] := by
    exact .cons (.lst (fun z => z) (.inr ⟨so, hHa⟩) (rpA_ints _ _ ns)) .nil
  have hq := start_ok (mg := mg) (N := N) (np := 1) (kr := .pl) (M1 := M1) (o := o) (vs := [.ref a]) (H := H) (Q := fun v _ => v = .bl true) (E := fun _ _ _ => False) (O := fun _ => False) rfl (fun _ z => nomatch z) rs (by rw [hval]; exact fun H' v _ r => by cases (show Rp H' _ (.bool true) v from r); rfl)
  refine wpAny_mono ((hbody _ cdv s₁ H hKb (dictB hns)).run [] s1 _ H _ I hq) (fun fl s' hs => ?_) fun e s' hs => ?_
  · have fin : ∀ {σ' : L2.St} {H' : Hp}, Inv (cxOf (L2.CX P w) P w K mg (hidT s₁.heap H) N qual (defScope st) fa cdv callerA [] s₁ H fun _ _ _ => False) [] σ' H' s' → OldK s₁.heap s'.heap ∧ s'.os = s₁.os ∧ PyProof.Rows.AllBare s'.gens := fun {σ' H'} J => by
      refine ⟨OldK.of_keep fun b ob e => ?_, J.os, J.bare⟩
      by_cases hb : b = a
      · subst hb
        obtain ⟨e1, _⟩ := hok b _ hHa
        obtain ⟨e2, _⟩ := J.hok b _ (J.base.frzs b _ _ hHa)
        rw [e] at e1
        cases e1
        exact e2
      · exact J.base.keep b ob e (hHo b hb) (fun z => nomatch z) fun z => nomatch z
    cases fl with
    | ret u =>
      obtain ⟨v, σ', H', J, rv, hv⟩ := hs
      have hv : v = .bl true := hv
      subst hv
      cases rv
      exact ⟨rfl, fin J⟩
    | next =>
      obtain ⟨σ', H', J, hv⟩ := hs
      exact nomatch (show V.non = V.bl true from hv)
    | brk => obtain ⟨_, _, _, hv⟩ := hs; exact hv.elim
    | cont => obtain ⟨_, _, _, hv⟩ := hs; exact hv.elim
  · have noexc : ∀ {e' : Value} {s'' : Shared}, ¬ L2.CX P w [] H s₁ (fun _ _ _ => False) e' s'' := fun {e' s''} z => by
      obtain ⟨_, _, _, _, _, _, _, _, _, _, _, _, q⟩ := z
      exact q
    exact wpAny_mono hs (fun _ _ z => (noexc z).elim) fun _ _ z => (noexc z).elim
/-- the goal that k_head leaves, for the law's own def -/
theorem walkG {l : PySem.W.OpenLaw} {n : Nat} {q : Program} {loose : List Str} {XP : (Str → Option Value) → Heap → Prop} {YP : World → Heap → Prop} {d : DefRec} {K : Params → PySem.W.Frag} {qual : Str} {st : Stmt} {N : List Str} {M1 : List Md} {o : Env' → Out}
    (hn : l.most = some n) (hn2 : n ≤ sizeLine) (hdf : d.params.defaults = []) (hY : ∀ (w : World) (h : Heap), YP w h → (K w.params).In h) (S : FnScope N ["script"] (defScope st)) (hN : 1 ≤ N.length)
    (F : ∀ (w : World) (mg : Str → Option Value) (fa : Addr) (h : Heap), (K w.params).In h → h.Ns mainGlobals mg → mg d.name = some (.ref fa) →
      (∀ b ob, (K w.params).lookup b = some ob → ob.cls ≠ .type "list") ∧ ∃ fd : FuncData, Fun (K w.params) "law" qual st fa fd ∧ (∀ (s : Shared) (u : Value), BindsTo s fd ⟨[u], []⟩ [("script", u)]) ∧
        ∀ (base : Heap) (cdv : Value) (s : Shared) (H : Hp), (K w.params).In base → base.Ns mainGlobals mg →
          DSs (cxOf (L2.CX l.prog w) l.prog w (K w.params) mg base N qual (defScope st) fa cdv callerA [] s H fun _ _ _ => False) ⟨wE fun _ _ _ => False, mg, none⟩ ⟨[], [], .pl⟩ (mode0 N.length 1) M1 (defBody st) o)
    (hval : ∀ ns : List Int, ns.length ≤ n → runD .pl N.length o [.list (ns.map .int)] = .ok (.bool true)) :
    PySem.W.WalkO q loose XP YP l.row.toRowW d [] (fun f vs => PySem.call f vs) := by
  refine Att.attach_call hn hdf fun w s₀ s₁ mg mb fa ob pm cd doc a vs ns G Y _ _ _ hmg hobj hints hlen hg => ?_
  have KX := hY w _ Y
  obtain ⟨nolist, fd, F1, hb, body⟩ := F w mg fa _ KX G.T.g hmg
  exact attach_go nolist F1 S hN hb body (hval ns hlen) KX G.T.g G.T.b G.T.builtins G.T.nolimit hg hobj hints (Nat.le_trans hlen hn2)
end DL

namespace DL
open PySem PySem.Spec L2 PyProof.Rows
section
variable {X : Cx} {G : Gd} {L : Lp} {M : List Md} {k ka kb kc kd : Kd} {a b c d e : Expr} {m ma mb mc md : Env' → Res D} {pos : Pos}
/-! ### a op b op' c op'' d -/
def tChain3 (r r' r'' : R2) (ta tb tc td : TE) : TE := fun σ H Q => ta σ H fun x H1 => tb σ H1 fun y H2 => r x y H2 fun z H3 => ∃ k, z = .bl k ∧
  (if k = true then tc σ H3 fun w H4 => r' y w H4 fun z' H5 => ∃ k', z' = .bl k' ∧ (if k' = true then td σ H5 fun u H6 => r'' w u H6 Q else Q (.bl false) H5) else Q (.bl false) H3)
theorem pe_chain3 {op op' op'' : CmpOp} {r r' r'' : R2} {ta tb tc td : TE} (ho : OpR X (compareOp op) r) (ho' : OpR X (compareOp op') r') (ho'' : OpR X (compareOp op'') r'') (ha : PE X a ta) (hb : PE X b tb) (hc : PE X c tc) (hd : PE X d td)
    (hm : lastMarks [op, op', op''] [b, c, d] = false := by with_unfolding_all rfl) : PE X (.Compare a [op, op', op''] [b, c, d] pos) (tChain3 r r' r'' ta tb tc td) := by
  refine ⟨fun pins s σ H Q I h => ?_⟩
  refine Compare_chain (thn (ha.run pins s σ H _ I h) fun v s1 ⟨x, H1, I1, r1, q1⟩ => chain_link (thn (hb.run pins s1 σ H1 _ I1 q1) fun u s2 ⟨y, H2, I2, r2, q2⟩ =>
    thn (ho pins s2 σ H2 x y v u _ I2 r1 r2 q2) fun t s3 ⟨z, H3, I3, r3, k, e, q3⟩ => ?_)) hm
  subst e
  cases r3
  refine wpAny_truthy_bool ?_
  cases k with
  | false => exact ite_ff ⟨.bl false, H3, I3, rfl, q3⟩
  | true =>
    refine ite_tt (chain_link (thn (hc.run pins s3 σ H3 _ I3 q3) fun w' s4 ⟨z', H4, I4, r4, q4⟩ => thn (ho' pins s4 σ H4 y z' u w' _ I4 r2 r4 q4) fun t' s5 ⟨z2, H5, I5, r5, k', e', q5⟩ => ?_))
    subst e'
    cases r5
    refine wpAny_truthy_bool ?_
    cases k' with
    | false => exact ite_ff ⟨.bl false, H5, I5, rfl, q5⟩
    | true => exact ite_tt (chain_last (thn (hd.run pins s5 σ H5 _ I5 q5) fun w2 s6 ⟨z6, H6, I6, r6, q6⟩ => ho'' pins s6 σ H6 z' z6 w' w2 Q I6 r4 r6 q6))
def mChain3 (f f' f'' : D → D → Option D) (ma mb mc md : Env' → Res D) : Env' → Res D := fun env => (ma env).bind fun x => (mb env).bind fun y => (Res.of (f x y)).bind fun z => (asB z).bind fun k => if k = true then (mc env).bind fun w => (Res.of (f' y w)).bind fun z => (asB z).bind fun k => if k = true then (md env).bind fun u => Res.of (f'' w u) else .ok (.bool false) else .ok (.bool false)
theorem tChain3_ok {r r' r'' : R2} {f f' f'' : D → D → Option D} (hB : B2 .pl r f) (hB' : B2 .pl r' f') (hB'' : B2 .pl r'' f'') (σ : L2.St) (H : Hp) (Q : VK) (h : tE G M .pl (mChain3 f f' f'' ma mb mc md) σ H Q) : tChain3 r r' r'' (tE G M .co ma) (tE G M .co mb) (tE G M .co mc) (tE G M .co md) σ H Q := by
  obtain ⟨g, O, env, sr, q⟩ := h
  refine ⟨g, O, env, sr, ?_⟩
  unfold mChain3 at q
  cases ha : ma env with
  | err => rw [ha] at q; exact q
  | exc c d => rw [ha] at q; exact q
  | ok x =>
    rw [ha, Res.bind_ok] at q
    intro H1 v1 s1 r1
    refine ⟨g, O, env, sr.grow s1, ?_⟩
    cases hb : mb env with
    | err => rw [hb] at q; exact q
    | exc c d => rw [hb] at q; exact XW.grow s1 q
    | ok y =>
      rw [hb, Res.bind_ok] at q
      intro H2 v2 s2 r2
      have s12 := s1.trans s2
      cases hf : f x y with
      | none => rw [hf] at q; exact q.elim
      | some d =>
        rw [hf, Res.of_some, Res.bind_ok] at q
        refine hB (Trk.grow sr.tr s12) (Rc.same s2 r1) r2 hf fun H3 v s3 r => ?_
        cases d <;> simp only [asB, Res.bind_err] at q
        case bool t =>
          rw [Res.bind_ok] at q
          refine ⟨t, Rc.bl_inv (.of r), ?_⟩
          have s13 := s12.trans s3
          cases t with
          | false =>
            rw [if_neg Bool.false_ne_true] at q ⊢
            exact q H3 _ s13 (.bl _)
          | true =>
            rw [if_pos rfl] at q ⊢
            refine ⟨g, O, env, sr.grow s13, ?_⟩
            cases hc : mc env with
            | err => rw [hc] at q; exact q
            | exc c d => rw [hc] at q; exact XW.grow s13 q
            | ok w =>
              rw [hc, Res.bind_ok] at q
              intro H4 v4 s4 r4
              have s14 := s13.trans s4
              cases hf2 : f' y w with
              | none => rw [hf2] at q; exact q.elim
              | some d2 =>
                rw [hf2, Res.of_some, Res.bind_ok] at q
                refine hB' (Trk.grow sr.tr s14) (Rc.same (s3.trans s4) r2) r4 hf2 fun H5 v s5 r => ?_
                cases d2 <;> simp only [asB, Res.bind_err] at q
                case bool t =>
                  rw [Res.bind_ok] at q
                  refine ⟨t, Rc.bl_inv (.of r), ?_⟩
                  have s15 := s14.trans s5
                  cases t with
                  | false =>
                    rw [if_neg Bool.false_ne_true] at q ⊢
                    exact q H5 _ s15 (.bl _)
                  | true =>
                    rw [if_pos rfl] at q ⊢
                    refine ⟨g, O, env, sr.grow s15, ?_⟩
                    cases hd : md env with
                    | err => rw [hd] at q; exact q
                    | exc c d => rw [hd] at q; exact XW.grow s15 q
                    | ok u =>
                      rw [hd, Res.bind_ok] at q
                      intro H6 v6 s6 r6
                      cases hf3 : f'' w u with
                      | none => rw [hf3] at q; exact q.elim
                      | some d3 =>
                        rw [hf3] at q
                        exact hB'' (Trk.grow sr.tr (s15.trans s6)) (Rc.same (s5.trans s6) r4) r6 hf3 fun H' v s r => q H' v ((s15.trans s6).trans s) r
theorem de_chain3 {op op' op'' : CmpOp} {r r' r'' : R2} {f f' f'' : D → D → Option D} (ho : OpR X (compareOp op) r) (ho' : OpR X (compareOp op') r') (ho'' : OpR X (compareOp op'') r'') (hB : B2 .pl r f) (hB' : B2 .pl r' f') (hB'' : B2 .pl r'' f'') (ha : DE X G M ka a ma) (hb : DE X G M kb b mb) (hc : DE X G M kc c mc) (hd : DE X G M kd d md)
    (hm : lastMarks [op, op', op''] [b, c, d] = false := by with_unfolding_all rfl) : DE X G M .pl (.Compare a [op, op', op''] [b, c, d] pos) (mChain3 f f' f'' ma mb mc md) := pe_imp (pe_chain3 ho ho' ho'' ha.co hb.co hc.co hd.co hm) (tChain3_ok hB hB' hB'')
theorem pt_chain3 {op op' op'' : CmpOp} {r r' r'' : R2} {ta tb tc td : TE} (ho : OpR X (compareOp op) r) (ho' : OpR X (compareOp op') r') (ho'' : OpR X (compareOp op'') r'') (ha : PE X a ta) (hb : PE X b tb) (hc : PE X c tc) (hd : PE X d td)
    (hm : lastMarks [op, op', op''] [b, c, d] = false := by with_unfolding_all rfl) : PT X (.Compare a [op, op', op''] [b, c, d] pos) (tTest (tChain3 r r' r'' ta tb tc td)) := by
  refine ⟨fun pins s σ H Q I h => ?_⟩
  refine isTrue_chain (thn (ha.run pins s σ H _ I h) fun v s1 ⟨x, H1, I1, r1, q1⟩ => test_link (thn (hb.run pins s1 σ H1 _ I1 q1) fun u s2 ⟨y, H2, I2, r2, q2⟩ =>
    thn (ho pins s2 σ H2 x y v u _ I2 r1 r2 q2) fun t s3 ⟨z, H3, I3, r3, k, e, q3⟩ => ?_)) hm
  subst e
  cases r3
  refine wpAny_truthy_bool ?_
  cases k with
  | false =>
    obtain ⟨k, e, q⟩ := q3
    cases e
    exact ite_ff ⟨H3, I3, q⟩
  | true =>
    refine ite_tt (test_link (thn (hc.run pins s3 σ H3 _ I3 q3) fun w' s4 ⟨z', H4, I4, r4, q4⟩ => thn (ho' pins s4 σ H4 y z' u w' _ I4 r2 r4 q4) fun t' s5 ⟨z2, H5, I5, r5, k', e', q5⟩ => ?_))
    subst e'
    cases r5
    refine wpAny_truthy_bool ?_
    cases k' with
    | false =>
      obtain ⟨k, e, q⟩ := q5
      cases e
      exact ite_ff ⟨H5, I5, q⟩
    | true =>
      refine ite_tt (test_last (thn (hd.run pins s5 σ H5 _ I5 q5) fun w2 s6 ⟨z6, H6, I6, r6, q6⟩ => thn (ho'' pins s6 σ H6 z' z6 w' w2 _ I6 r4 r6 q6) fun t6 s7 ⟨z7, H7, I7, r7, k, e, q⟩ => ?_))
      subst e
      cases r7
      exact wpAny_truthy_bool ⟨H7, I7, q⟩
theorem dt_chain3 {op op' op'' : CmpOp} {r r' r'' : R2} {f f' f'' : D → D → Option D} (ho : OpR X (compareOp op) r) (ho' : OpR X (compareOp op') r') (ho'' : OpR X (compareOp op'') r'') (hB : B2 .pl r f) (hB' : B2 .pl r' f') (hB'' : B2 .pl r'' f'') (ha : DE X G M ka a ma) (hb : DE X G M kb b mb) (hc : DE X G M kc c mc) (hd : DE X G M kd d md)
    (hm : lastMarks [op, op', op''] [b, c, d] = false := by with_unfolding_all rfl) : DT X G M (.Compare a [op, op', op''] [b, c, d] pos) (mB (mChain3 f f' f'' ma mb mc md)) := pt_imp (pt_chain3 ho ho' ho'' ha.co hb.co hc.co hd.co hm) fun σ H Q h => by
  obtain ⟨g, O, env, sr, q⟩ := h
  refine tChain3_ok (G := G) (M := M) hB hB' hB'' σ H _ ⟨g, O, env, sr, ?_⟩
  unfold mB at q
  cases h : mChain3 f f' f'' ma mb mc md env with
  | err => rw [h] at q; exact q
  | exc c d => rw [h] at q; exact q
  | ok d =>
    rw [h, Res.bind_ok] at q
    intro H' v s r
    cases d <;> simp only [asB] at q
    case bool b => exact ⟨b, Rc.bl_inv (.of r), q H' s⟩
/-! ### 'abc'.index(x) -/
def sindexD : D → List D → Option D
  | .str a, [.str b] => match Builtin.Str.occurrences a b 0 a.length 1 with
    | i :: _ => some (.int (i : Nat))
    | [] => none
  | _, _ => none
theorem mb_sindex : MB .pl (fun x xs H Q => ∃ a b i rest, x = .str a ∧ xs = [.str b] ∧ Builtin.Str.occurrences a b 0 a.length 1 = i :: rest ∧ Q (.int (i : Nat)) H) sindexD := by
  intro H O x vs dx ds d Q tr rx rv hf q
  unfold sindexD at hf
  split at hf
  · rename_i a b
    split at hf
    · rename_i i rest e
      cases hf
      cases rx.str_inv
      obtain ⟨v, rfl, r1⟩ := RcA.one rv
      cases r1.str_inv
      exact ⟨a, b, i, rest, rfl, rfl, e, q H _ (Same.refl H) (.int _)⟩
    · cases hf
  · cases hf
theorem de_sindex {o arg : Expr} {apos : Pos} {mo m : Env' → Res D} (ho : DE X G M ka o mo) (he : DE X G M kb arg m) (hs : starEach [arg] X.env = [(false, eval arg X.env)] := by rfl) (hbase : attributeBase o "index" X.env (eval o X.env) = eval o X.env := by rfl) (hline : (apos.endLine == pos.line) = true := by rfl)
    (hfew : ((backTo pos (starEach [arg] X.env)).all (fun x => !x.1) && (backToKw pos (keywordEach [] X.env)).all (fun x => x.1.isSome)
      && decide ([arg].length + ([] : List Keyword).length + (if ([] : List Keyword).isEmpty then 0 else 1) < 30)) = true := by rfl) :
    DE X G M .pl (.Call (.Attribute o "index" apos) [arg] [] pos) (mM1 isStrD sindexD mo (aCons m aNil)) :=
  pe_imp (pe_bm PySem.F.plainAttrs_str PySem.F.slot_str_index PySem.F.type_str_index mt_sindex ho.co (da_consC he da_nil hs) hbase hfew hline hs) (tM1_ok ty_str mb_sindex)
end
end DL

namespace DL
open PySem PySem.Spec L2 PyProof.Rows
theorem turnLong {P : Program} {w : World} {K : PySem.W.Frag} {tg : Expr} (z : Addr) (lo : Int) (n : Nat) : Turn P w K tg (Itr lo n) [z] z (fun i h => IsLongIter h z (lo + (i : Nat) * 1) ((n : Int) - (i : Nat)) 1) where
  mem := List.mem_singleton.mpr rfl
  obj := fun i h u b hb => by
    cases List.mem_singleton.mp hb
    exact ⟨_, u, fun v q => by cases (show Data.fields _ = Data.cell v from q)⟩
  keep := fun i h h' u k => k z (List.mem_singleton.mpr rfl) _ u
  item := by
    intro X eP ew eK hc i pins s σ H E I hf u hg
    subst eP ew eK
    obtain ⟨a0, a1, a2, a3, a4, a5⟩ := hf z (List.mem_singleton.mpr rfl)
    have V := Walks.longrange (prog := X.prog) (w := X.w) (I.ok.hd hc) z lo 1 n
    refine V.item i s _ _ hg u fun v h' tk hv u' kk => ?_
    obtain ⟨t, rfl⟩ := hv
    have I' : Inv X pins σ H { s with heap := h', toks := tk } := I.turned (fun b o hb e => kk b o (by simpa using hb) e) a0 a1 a3 a4 a5
    refine ⟨_, rfl, go_of (s := { s with heap := h', toks := tk }) (n := "longrange_iterator") u' rfl rfl (by decide) ⟨.int (lo + i), H, I', ⟨t, by rw [Int.mul_one]⟩, ⟨rfl, rfl⟩, u', fun b hb => (hf b hb).1⟩⟩
  done := by
    intro X eP ew eK hc i pins s σ H E I hf u hg
    subst eP ew eK
    obtain ⟨a0, a1, a2, a3, a4, a5⟩ := hf z (List.mem_singleton.mpr rfl)
    exact wpAny_pyNext_long_end (I.ok.hd hc) u (by have : n ≤ i := hg; omega) fun h' eb => ⟨rfl, I.turned (t' := s.toks) (fun b o hb e => eb b o hb e) a0 a1 a3 a4 a5⟩
  self := fun _ _ _ _ _ u h => wpAny_pyIter_longiter u h
section
variable {X : Cx} {tg : Expr}
/-- a range of any ints, walked -/
theorem rangeAny {pins : List (Addr × Obj)} {σ : L2.St} {H : Hp} {s : Shared} {R : It → Hp → Prop} {E : Value → Shared → Prop} {lo hi : Int} {t u v : Tok} {tk : Nat} (I : Inv X pins σ H s)
    (q : R (Itr lo (hi - lo).toNat) H) : wpAny (model X.prog X.w) X.A (pyIter (.ref s.heap.objs.size)) (PIE X pins σ tg R) E { s with heap := s.heap.push { cls := .type "range", data := .fields #[.int lo t, .int hi u, .int 1 v] }, toks := tk } := by
  have rs : (((hi - lo).toNat : Nat) : Int) = Builtin.Range.rangeSize lo hi 1 := by rw [rangeSize_one]; split <;> omega
  have I' : Inv X pins σ H { s with heap := s.heap.push { cls := .type "range", data := .fields #[.int lo t, .int hi u, .int 1 v] }, toks := tk } := I.kept fun b o e => Heap.get?_push_of_some _ e
  have e1 : lo + ((0 : Nat) : Int) * 1 = lo := by rw [Int.mul_one]; exact Int.add_zero lo
  have e2 : (((hi - lo).toNat : Nat) : Int) - ((0 : Nat) : Int) = Builtin.Range.rangeSize lo hi 1 := by rw [← rs]; exact Int.sub_zero _
  by_cases hs : Builtin.Range.small lo hi 1 = true
  · refine wpAny_pyIter_range (IsRange.new ..) hs ?_
    refine ⟨_, [_], _, _, H, rfl, I'.kept (t' := tk) fun b o e => Heap.get?_push_of_some _ e, turn_range _ lo (hi - lo).toNat, ?_, fun b hb => ?_, q⟩
    · show IsRangeIter _ _ (lo + ((0 : Nat) : Int) * 1) ((((hi - lo).toNat : Nat) : Int) - ((0 : Nat) : Int)) 1
      rw [e1, e2]
      exact Heap.get?_push_size _ rfl
    · cases List.mem_singleton.mp hb
      exact I'.fpOk (Nat.le_refl _) (I'.hok.fresh (Nat.le_refl _))
  · refine wpAny_pyIter_longrange (IsRange.new ..) (by simpa using hs) ?_
    refine ⟨_, [_], _, _, H, rfl, I'.kept (t' := tk) fun b o e => Heap.get?_push_of_some _ e, turnLong _ lo (hi - lo).toNat, ?_, fun b hb => ?_, q⟩
    · show IsLongIter _ _ (lo + ((0 : Nat) : Int) * 1) ((((hi - lo).toNat : Nat) : Int) - ((0 : Nat) : Int)) 1
      rw [e1, e2]
      exact Heap.get?_push_size _ rfl
    · cases List.mem_singleton.mp hb
      exact I'.fpOk (Nat.le_refl _) (I'.hok.fresh (Nat.le_refl _))
def iRngG (ta : TA) : TI := fun σ H R => ta σ H fun vs H1 => ∃ i j : Int, vs = [.int i, .int j] ∧ R (Itr i (j - i).toNat) H1
theorem pi_rangeG {a b : Expr} {ta : TA} {p pos : Pos} (hg : Gl X "range") (hm : X.mg "range" = none) (ha : PA X [a, b] ta) (hs : starEach [a, b] X.env = [(false, eval a X.env), (false, eval b X.env)] := by rfl) (hs2 : starEach [b] X.env = [(false, eval b X.env)] := by rfl) :
    PI X tg (.Call (.Name "range" p) [a, b] [] pos) (iRngG ta) := by
  refine ⟨fun ps s σ H R J h => ?_⟩
  refine Call_ (ld_blt J hg hm boot_range (callWith_type1 (thn (ha.run pos ps s σ H _ J h) fun us s1 ⟨vs, H1, J1, r1, q1⟩ => ?_) (by rw [hs, hs2]) (by rw [hs2]; rfl)))
  obtain ⟨i, j, rfl, q⟩ := q1
  cases r1 with
  | cons ra rr =>
    cases rr with
    | cons rb rr =>
      cases rr
      obtain ⟨t, rfl⟩ := ra
      obtain ⟨t', rfl⟩ := rb
      exact call_range_2 (rangeAny J1 q)
def rangeG : List D → Res (List D)
  | [.int i, .int j] => .ok (rng i (j - i).toNat)
  | _ => .err
def iRangeG (ms : Env' → Res (List D)) : Env' → Res (List D) := fun env => (ms env).bind rangeG
variable {G : Gd} {M : List Md} {ka kb : Kd} {a b : Expr} {ma mb : Env' → Res D} {pos : Pos}
theorem di_rangeG {p : Pos} (hg : Gl X "range") (hm : X.mg "range" = none) (ha : DE X G M ka a ma) (hb : DE X G M kb b mb) (hs : starEach [a, b] X.env = [(false, eval a X.env), (false, eval b X.env)] := by rfl) (hs2 : starEach [b] X.env = [(false, eval b X.env)] := by rfl) : DI X G M tg (.Call (.Name "range" p) [a, b] [] pos) (iRangeG (aCons ma (aCons mb aNil))) :=
  pi_imp (pi_rangeG hg hm (da_consC (G := G) (M := M) ha (da_consC hb da_nil hs2) (by rw [hs, hs2])) hs hs2) fun σ H R ⟨g, O, env, sr, q⟩ => by
    refine ⟨g, O, env, sr, ?_⟩
    unfold iRangeG at q
    cases h : aCons ma (aCons mb aNil) env with
    | err => rw [h] at q; exact q
    | exc c d => rw [h] at q; exact q
    | ok ds =>
      rw [h, Res.bind_ok] at q
      have hl : ∃ d d2, ds = [d, d2] := by
        unfold aCons aNil at h
        cases h2 : ma env with
        | ok d =>
          cases h3 : mb env with
          | ok d2 => rw [h2, h3] at h; cases h; exact ⟨d, d2, rfl⟩
          | exc c d => rw [h2, h3] at h; cases h
          | err => rw [h2, h3] at h; cases h
        | exc c d => rw [h2] at h; cases h
        | err => rw [h2] at h; cases h
      obtain ⟨d, d2, rfl⟩ := hl
      intro H1 vs s r
      obtain ⟨v, w, rfl, r1, r2⟩ := RcA.two r
      cases d <;> try exact q.elim
      cases d2 <;> try exact q.elim
      case int.int i j =>
        cases r1.int_inv; cases r2.int_inv
        exact ⟨i, j, rfl, q _ _ s itOk_range⟩
end
end DL

namespace DL
open PySem PySem.Spec L2
/-! ### results that are a new list, or plain -/
section
variable {X : Cx} {G : Gd} {L : Lp} {M M' : List Md} {k : Kd} {e : Expr} {m : Env' → Res D} {pos : Pos} {st : Stmt} {rest : List Stmt} {o1 o2 : Env' → Out}
theorem RK.plL {H H' : Hp} {O : AS} {d : D} {v : V} (tr : ∀ a, O a → ∃ o, H a = some o ∧ Mut (some o)) (r : RK .lf H O H' d v) : Rp H' O d v := by
  rcases r with ⟨r, _⟩ | r
  · exact r
  · exact RK.pl tr r
theorem DE.plL (h : DE X G M .lf e m) : DE X G M .pl e m := pe_imp h fun σ H Q ⟨g, O, env, sr, q⟩ => by
  refine ⟨g, O, env, sr, ?_⟩
  cases h : m env with
  | err => rw [h] at q; exact q
  | exc c d => rw [h] at q; exact q
  | ok d =>
    rw [h] at q
    exact fun H' v s r => q H' v s (RK.plL sr.tr r)
def oRetP (m : Env' → Res D) : Env' → Out := fun env => exOut (m env) env fun d => match d with
  | .list _ => .err
  | d => .rt d
theorem ds_retLP (hx : mle M L.Mx = true) (hk : L.kr = .lf) (he : DE X G M .pl e m) : DS X G L M M' (.Return (some e) pos) (oRetP m) := ps_imp (ps_ret he) fun E σ H h => by
  obtain ⟨g, O, env, sr, q⟩ := tS_iff.mp h
  refine tE_go sr hx q fun d q H' v s r => ?_
  have r' : Rp H' g.O0 d v := Rp.mono (Sub.less sr.sub0) r
  cases d with
  | list ds => exact q.elim
  | none => exact q H' v (sr.same.trans s) (by rw [hk]; exact .inl ⟨r', fun _ z => nomatch z⟩)
  | bool b => exact q H' v (sr.same.trans s) (by rw [hk]; exact .inl ⟨r', fun _ z => nomatch z⟩)
  | int b => exact q H' v (sr.same.trans s) (by rw [hk]; exact .inl ⟨r', fun _ z => nomatch z⟩)
  | str b => exact q H' v (sr.same.trans s) (by rw [hk]; exact .inl ⟨r', fun _ z => nomatch z⟩)
  | tuple b => exact q H' v (sr.same.trans s) (by rw [hk]; exact .inl ⟨r', fun _ z => nomatch z⟩)
  | dict b => exact q H' v (sr.same.trans s) (by rw [hk]; exact .inl ⟨r', fun _ z => nomatch z⟩)
theorem ds_retLF (hx : mle M L.Mx = true) (hk : L.kr = .lf) (he : DE X G M .fr e m) : DS X G L M M' (.Return (some e) pos) (oRet m) := ps_imp (ps_ret he) fun E σ H h => by
  obtain ⟨g, O, env, sr, q⟩ := tS_iff.mp h
  refine tE_go sr hx q fun d q H' v s r => q H' v (sr.same.trans s) ?_
  rw [hk]
  obtain ⟨p, e, n, r⟩ := r
  exact .inr ⟨p, e, sr.same.free n, r.mono (Sub.less fun b z => z.elim (fun z => .inl (sr.sub0 b z)) .inr) rfl⟩
theorem ds_retLN (hk : L.kr = .lf) : DS X G L M M' (.Return none pos) (fun _ => .rt .none) := ps_imp ps_retN fun E σ H h => by
  obtain ⟨g, O, env, sr, q⟩ := tS_iff.mp h
  exact q H _ sr.same (by rw [hk]; exact .inl ⟨.non, fun _ z => nomatch z⟩)
/-- what is never reached -/
theorem ds_dead : DS X G L M M' st (fun _ => .err) := ⟨fun pins s σ H D I h => by
  obtain ⟨g, O, env, sr, q⟩ := tS_iff.mp h
  exact q.elim⟩
theorem pss_or {t t' : TS} (h1 : PSs X rest t) (h2 : PSs X rest t') : PSs X rest (fun E σ H => t E σ H ∨ t' E σ H) := ⟨fun pins s σ H D I h => by
  rcases h with h | h
  · exact h1.run pins s σ H D I h
  · exact h2.run pins s σ H D I h⟩
/-- name = e; the rest, as it is a list of its own or not -/
def oSetL (i : Nat) (m : Env' → Res D) (o1 o2 : Env' → Out) : Env' → Out := fun env => exOut (m env) env fun d => match d with
  | .list ds => o1 (env.set i (some (.list ds)))
  | d => o2 (env.set i (some d))
theorem dss_setL {i : Nat} {x : Str} {pos' : Pos} (hx : mle M L.Mx = true) (hN : X.N.Nodup) (hi : X.N[i]? = some x) (hl : Loc X.env.scope x) (he : DE X G M .lf e m) (h1 : DSs X G L (M.set i .ow) M' rest o1) (h2 : DSs X G L (M.set i .fz) M' rest o2) (hs : swapsWith e (some (.Name x pos')) pos.line X.env = pure false := by rfl)
    (hf : X.fn x = true ∨ X.env.scope.names.lookup x = some .local := by first | exact .inl rfl | exact .inr rfl | assumption) : DSs X G L M M' (.Assign [.Name x pos'] e pos :: rest) (oSetL i m o1 o2) :=
  pss_imp (pss_cons (ps_set hN hi hl he hs hf) (pss_or h1 h2)) fun E σ H h => by
    obtain ⟨g, O, env, sr, q⟩ := tS_iff.mp h
    refine tE_go sr hx q fun d q H' v s r => ?_
    have key : ∀ d : D, OutOk G L M' g O H E (o2 (env.set i (some d))) → RK .lf H O H' d v → tS G L (M.set i .fz) M' o2 E (σ.set i (some v)) H' := fun d q r =>
      tS_iff.mpr ⟨g, O, _, (sr.grow s).setF i (RK.plL sr.tr r), OutOk.sub (Sub.same s O) q⟩
    cases d with
    | list ds =>
      rcases r with ⟨_, z⟩ | ⟨a, rfl, n, r⟩
      · exact absurd rfl (z ds)
      · obtain ⟨sub, sr'⟩ := sr.setO i s n r
        exact .inl (tS_iff.mpr ⟨g, _, _, sr', OutOk.sub sub q⟩)
    | none => exact .inr (key _ q r)
    | bool b => exact .inr (key _ q r)
    | int b => exact .inr (key _ q r)
    | str b => exact .inr (key _ q r)
    | tuple b => exact .inr (key _ q r)
    | dict b => exact .inr (key _ q r)
end
end DL

namespace DL
open PySem PySem.Spec L2
/-! ### the order of alike data -/
section
variable {X : Cx} {G : Gd} {M : List Md} {k ka kb : Kd} {a b : Expr} {ma mb : Env' → Res D} {ms : Env' → Res (List D)} {pos : Pos}
def rOrd (K : PySem.W.Frag) (g : D → D → Bool) : R2 := fun x y H Q => ∃ da db, Dp K H x da ∧ Dp K H y db ∧ W.alike da db = true ∧ da ≠ .none ∧ da.depth ≤ 60 ∧ Q (.bl (g da db)) H
theorem op_ltDD (hu : X.A.units + 65 < cLine) : OpR X (compareOp .Lt) (rOrd X.K fun x y => W.dataLt x y) := by
  intro pins s σ H x y v u Q I rx ry ⟨da, db, h1, h2, h3, h4, h5, q⟩
  obtain ⟨as, ra⟩ := Dp.reads I da x v h1 rx
  obtain ⟨bs, rb⟩ := Dp.reads I db y u h2 ry
  exact W.lt_data ra rb h3 h4 (by omega) ⟨.bl _, H, I, rfl, q⟩
theorem op_gtDD (hu : X.A.units + 65 < cLine) : OpR X (compareOp .Gt) (rOrd X.K fun x y => W.dataLt y x) := by
  intro pins s σ H x y v u Q I rx ry ⟨da, db, h1, h2, h3, h4, h5, q⟩
  obtain ⟨as, ra⟩ := Dp.reads I da x v h1 rx
  obtain ⟨bs, rb⟩ := Dp.reads I db y u h2 ry
  exact W.gt_data ra rb h3 h4 (by omega) ⟨.bl _, H, I, rfl, q⟩
theorem op_leDD (hu : X.A.units + 65 < cLine) : OpR X (compareOp .LtE) (rOrd X.K fun x y => !W.dataLt y x) := by
  intro pins s σ H x y v u Q I rx ry ⟨da, db, h1, h2, h3, h4, h5, q⟩
  obtain ⟨as, ra⟩ := Dp.reads I da x v h1 rx
  obtain ⟨bs, rb⟩ := Dp.reads I db y u h2 ry
  exact W.le_data ra rb h3 h4 (by omega) ⟨.bl _, H, I, rfl, q⟩
theorem op_geDD (hu : X.A.units + 65 < cLine) : OpR X (compareOp .GtE) (rOrd X.K fun x y => !W.dataLt x y) := by
  intro pins s σ H x y v u Q I rx ry ⟨da, db, h1, h2, h3, h4, h5, q⟩
  obtain ⟨as, ra⟩ := Dp.reads I da x v h1 rx
  obtain ⟨bs, rb⟩ := Dp.reads I db y u h2 ry
  exact W.ge_data ra rb h3 h4 (by omega) ⟨.bl _, H, I, rfl, q⟩
def ordOk (x y : D) : Bool := PyData.canLay0 x && PyData.canLay0 y && W.alike x y && !isND x && decide (x.depth ≤ 60)
def ordD (g : D → D → Bool) (x y : D) : Option D := if ordOk x y = true then some (.bool (g x y)) else none
theorem b2_ord {K : PySem.W.Frag} {g : D → D → Bool} : B2 .pl (rOrd K g) (ordD g) := by
  intro H O x y dx dy d Q tr rx ry hf q
  unfold ordD at hf
  split at hf
  · rename_i h
    cases hf
    unfold ordOk at h
    simp only [Bool.and_eq_true, decide_eq_true_eq] at h
    obtain ⟨⟨⟨⟨h1, h2⟩, h3⟩, h4⟩, h5⟩ := h
    have h6 : dx ≠ .none := fun z => by rw [z] at h4; cases h4
    exact ⟨dx, dy, rx.dp h1, ry.dp h2, h3, h6, h5, q H _ (Same.refl H) (.bl _)⟩
  · cases hf
def ltDD : D → D → Option D := ordD fun x y => W.dataLt x y
def gtDD : D → D → Option D := ordD fun x y => W.dataLt y x
def leDD : D → D → Option D := ordD fun x y => !W.dataLt y x
def geDD : D → D → Option D := ordD fun x y => !W.dataLt x y
theorem de_ltDD (hu : X.A.units + 65 < cLine) (ha : DE X G M ka a ma) (hb : DE X G M kb b mb) (hm : behindInMarks .Lt b = false := by first | exact nobehind _ (by decide) (by decide) | rfl) : DE X G M .pl (.Compare a [.Lt] [b] pos) (m2 ltDD ma mb) := de_cmp (op_ltDD hu) b2_ord ha hb hm
theorem de_gtDD (hu : X.A.units + 65 < cLine) (ha : DE X G M ka a ma) (hb : DE X G M kb b mb) (hm : behindInMarks .Gt b = false := by first | exact nobehind _ (by decide) (by decide) | rfl) : DE X G M .pl (.Compare a [.Gt] [b] pos) (m2 gtDD ma mb) := de_cmp (op_gtDD hu) b2_ord ha hb hm
theorem de_leDD (hu : X.A.units + 65 < cLine) (ha : DE X G M ka a ma) (hb : DE X G M kb b mb) (hm : behindInMarks .LtE b = false := by first | exact nobehind _ (by decide) (by decide) | rfl) : DE X G M .pl (.Compare a [.LtE] [b] pos) (m2 leDD ma mb) := de_cmp (op_leDD hu) b2_ord ha hb hm
theorem de_geDD (hu : X.A.units + 65 < cLine) (ha : DE X G M ka a ma) (hb : DE X G M kb b mb) (hm : behindInMarks .GtE b = false := by first | exact nobehind _ (by decide) (by decide) | rfl) : DE X G M .pl (.Compare a [.GtE] [b] pos) (m2 geDD ma mb) := de_cmp (op_geDD hu) b2_ord ha hb hm
theorem dt_ltDD (hu : X.A.units + 65 < cLine) (ha : DE X G M ka a ma) (hb : DE X G M kb b mb) (hm : behindInMarks .Lt b = false := by first | exact nobehind _ (by decide) (by decide) | rfl) : DT X G M (.Compare a [.Lt] [b] pos) (mB (m2 ltDD ma mb)) := dt_cmp (op_ltDD hu) b2_ord ha hb hm
theorem dt_gtDD (hu : X.A.units + 65 < cLine) (ha : DE X G M ka a ma) (hb : DE X G M kb b mb) (hm : behindInMarks .Gt b = false := by first | exact nobehind _ (by decide) (by decide) | rfl) : DT X G M (.Compare a [.Gt] [b] pos) (mB (m2 gtDD ma mb)) := dt_cmp (op_gtDD hu) b2_ord ha hb hm
theorem dt_leDD (hu : X.A.units + 65 < cLine) (ha : DE X G M ka a ma) (hb : DE X G M kb b mb) (hm : behindInMarks .LtE b = false := by first | exact nobehind _ (by decide) (by decide) | rfl) : DT X G M (.Compare a [.LtE] [b] pos) (mB (m2 leDD ma mb)) := dt_cmp (op_leDD hu) b2_ord ha hb hm
theorem dt_geDD (hu : X.A.units + 65 < cLine) (ha : DE X G M ka a ma) (hb : DE X G M kb b mb) (hm : behindInMarks .GtE b = false := by first | exact nobehind _ (by decide) (by decide) | rfl) : DT X G M (.Compare a [.GtE] [b] pos) (mB (m2 geDD ma mb)) := dt_cmp (op_geDD hu) b2_ord ha hb hm
/-! ### min of a list of ints -/
theorem fold_min (r : List Int) : ∀ n : Int, r.foldl min n ∈ n :: r ∧ ∀ y ∈ n :: r, r.foldl min n ≤ y := by
  induction r with
  | nil => intro n; exact ⟨by simp, by simp⟩
  | cons x r ih =>
    intro n
    obtain ⟨h1, h2⟩ := ih (min n x)
    rw [List.foldl_cons]
    refine ⟨?_, fun y hy => ?_⟩
    · rcases List.mem_cons.mp h1 with h | h
      · rcases Int.le_total n x with z | z
        · rw [h, Int.min_eq_left z]; simp
        · rw [h, Int.min_eq_right z]; simp
      · simp [h]
    · have h3 := h2 (min n x) (by simp)
      rcases List.mem_cons.mp hy with rfl | hy
      · exact Int.le_trans h3 (Int.min_le_left _ _)
      · rcases List.mem_cons.mp hy with rfl | hy
        · exact Int.le_trans h3 (Int.min_le_right _ _)
        · exact h2 y (by simp [hy])
def minLD : List D → Option D
  | [.list ds] => match intsOf ds with
    | some (n :: r) => some (.int (r.foldl min n))
    | _ => none
  | _ => none
theorem cb_minL {K : PySem.W.Frag} : CB .pl .co (rMin K) minLD := by
  intro H O vs ds d Q tr r hf q
  unfold minLD at hf
  split at hf
  · rename_i xs
    cases e : intsOf xs with
    | none => rw [e] at hf; cases hf
    | some ns =>
      cases ns with
      | nil => rw [e] at hf; cases hf
      | cons n ns =>
        rw [e] at hf; cases hf
        obtain ⟨v, rfl, r1⟩ := RcA.one r
        obtain ⟨p, ys, rfl, e1, r2⟩ := r1.list_inv
        cases intsOf_ok r2 e
        obtain ⟨h1, h2⟩ := fold_min ns n
        refine ⟨p, n :: ns, rfl, Rd.seqL e1, by simp, fun m hm hle => ?_⟩
        have : m = ns.foldl min n := Int.le_antisymm (hle _ h1) (h2 m hm)
        rw [this]
        exact q H _ (Same.refl H) (.int _)
  · cases hf
/-! ### dicts of pairs, read -/
def keyD : D → Option Key
  | .int i => some (.inl i)
  | .str x => some (.inr x)
  | _ => none
theorem keyD_kD : ∀ k : Key, keyD (kD k) = some k
  | .inl _ => rfl
  | .inr _ => rfl
theorem kD_keyD {d : D} {k : Key} (h : keyD d = some k) : d = kD k := by
  cases d <;> simp only [keyD] at h <;> cases h <;> rfl
theorem rc_key {H : Hp} {O : AS} {d : D} {k : Key} {v : V} (h : keyD d = some k) (r : Rc H O d v) : v = kV k := by
  cases d <;> simp only [keyD] at h <;> cases h
  · exact r.int_inv
  · exact r.str_inv
def valD (kvs : List (D × D)) (k : Key) : Option D := (kvs.find? fun kv => decide (keyD kv.1 = some k)).map (·.2)
theorem RpK.val {H : Hp} {O : AS} {k : Key} : ∀ {ds : List (D × D)} {kvs : List (Key × V)}, RpK H O ds kvs → (valD ds k = none ∧ valV kvs k = none) ∨ ∃ d v, valD ds k = some d ∧ valV kvs k = some v ∧ Rp H O d v
  | _, _, .nil => .inl ⟨rfl, rfl⟩
  | _, _, .cons (k := k') (d := d) (v := v) (ds := ds) (vs := vs) a b => by
    by_cases h : k' = k
    · refine .inr ⟨d, v, ?_, ?_, a⟩
      · simp [valD, List.find?_cons, keyD_kD, h]
      · simp [valV, List.find?_cons, h]
    · have e1 : valD ((kD k', d) :: ds) k = valD ds k := by simp [valD, List.find?_cons, keyD_kD, h]
      have e2 : valV ((k', v) :: vs) k = valV vs k := by simp [valV, List.find?_cons, h]
      rw [e1, e2]
      exact RpK.val b
def putD (kvs : List (D × D)) (k : Key) (d : D) : List (D × D) := if (kvs.any fun kv => decide (keyD kv.1 = some k)) = true then kvs.map (fun kv => if keyD kv.1 = some k then (kv.1, d) else kv) else kvs ++ [(kD k, d)]
theorem RpK.append {H : Hp} {O : AS} : ∀ {ds es : List (D × D)} {kvs lvs : List (Key × V)}, RpK H O ds kvs → RpK H O es lvs → RpK H O (ds ++ es) (kvs ++ lvs)
  | _, _, _, _, .nil, t => t
  | _, _, _, _, .cons a b, t => .cons a (RpK.append b t)
theorem RpK.any {H : Hp} {O : AS} {k : Key} : ∀ {ds : List (D × D)} {kvs : List (Key × V)}, RpK H O ds kvs → (ds.any fun kv => decide (keyD kv.1 = some k)) = kvs.any fun kv => decide (kv.1 = k)
  | _, _, .nil => rfl
  | _, _, .cons (k := k') (d := d) (v := v) a b => by
    rw [List.any_cons, List.any_cons, RpK.any b, keyD_kD]
    congr 1
    by_cases h : k' = k <;> simp [h]
theorem RpK.mapP {H : Hp} {O : AS} {k : Key} {d : D} {v : V} (r : Rp H O d v) : ∀ {ds : List (D × D)} {kvs : List (Key × V)}, RpK H O ds kvs → RpK H O (ds.map fun kv => if keyD kv.1 = some k then (kv.1, d) else kv) (kvs.map fun kv => if kv.1 = k then (kv.1, v) else kv)
  | _, _, .nil => .nil
  | _, _, .cons (k := k') (d := d') (v := v') a b => by
    rw [List.map_cons, List.map_cons, keyD_kD]
    by_cases h : k' = k
    · rw [if_pos (by rw [h]), if_pos h]
      exact .cons r (RpK.mapP r b)
    · rw [if_neg (fun z => h (by injection z)), if_neg h]
      exact .cons a (RpK.mapP r b)
theorem RpK.put {H : Hp} {O : AS} {k : Key} {d : D} {v : V} {ds : List (D × D)} {kvs : List (Key × V)} (q : RpK H O ds kvs) (r : Rp H O d v) : RpK H O (putD ds k d) (putK kvs k v) := by
  unfold putD putK
  rw [q.any]
  split
  · exact RpK.mapP r q
  · exact q.append (.cons r .nil)
/-- pairs of a list -/
def pairsD : List D → Option (List (Key × D))
  | [] => some []
  | .tuple [x, d] :: ds => (keyD x).bind fun k => (pairsD ds).map fun ps => (k, d) :: ps
  | _ => none
def dictD : List D → Option D
  | [.list ds] => (pairsD ds).map fun ps => .dict (ps.foldl (fun acc kv => putD acc kv.1 kv.2) [])
  | _ => none
theorem pairs_ok {K : PySem.W.Frag} {H : Hp} {O : AS} : ∀ {ds : List D} {vs : List V} {ps : List (Key × D)}, RpA H O ds vs → pairsD ds = some ps → ∃ (as : List Addr) (kvs : List (Key × V)), vs = as.map V.ref ∧ Paired (fun p kv => SqT K H p [kV kv.1, kv.2]) as kvs ∧ Paired (fun (p : Key × D) (q : Key × V) => p.1 = q.1 ∧ Rp H O p.2 q.2) ps kvs
  | _, _, _, .nil, h => by cases h; exact ⟨[], [], rfl, .nil, .nil⟩
  | _, _, _, .cons (d := d) (ds := ds) a b, h => by
    unfold pairsD at h
    split at h
    · rename_i heq; cases heq
    · rename_i x d' ds' heq
      injection heq with e1 e2
      subst e1 e2
      cases hk : keyD x with
      | none => rw [hk] at h; cases h
      | some k =>
        rw [hk, Option.bind_some] at h
        cases hp : pairsD ds with
        | none => rw [hp] at h; cases h
        | some ps' =>
          rw [hp] at h; cases h
          obtain ⟨as, kvs, rfl, h1, h2⟩ := pairs_ok (K := K) b hp
          cases a with
          | tup hn hr hv =>
            cases hv with
            | cons ra rb =>
              cases rb with
              | cons rb rc =>
                cases rc
                cases rc_key hk (.of ra)
                exact ⟨_ :: as, (k, _) :: kvs, rfl, .cons (Rd.seqT hr) h1, .cons ⟨rfl, rb⟩ h2⟩
    · cases h
theorem merge_ok {H : Hp} {O : AS} : ∀ {ps : List (Key × D)} {kvs : List (Key × V)} {ds : List (D × D)} {ls : List (Key × V)}, Paired (fun (p : Key × D) (q : Key × V) => p.1 = q.1 ∧ Rp H O p.2 q.2) ps kvs → RpK H O ds ls →
    RpK H O (ps.foldl (fun acc kv => putD acc kv.1 kv.2) ds) (mergeK ls kvs)
  | _, _, _, _, .nil, q => q
  | _, _, ds, ls, .cons (a := p) (b := r) (l₁ := l1) (l₂ := l2) h t, q => by
    have : RpK H O (putD ds p.1 p.2) (putK ls r.1 r.2) := by
      rw [h.1]
      exact q.put h.2
    show RpK H O (l1.foldl (fun acc kv => putD acc kv.1 kv.2) (putD ds p.1 p.2)) (mergeK (putK ls r.1 r.2) l2)
    exact merge_ok t this
theorem cb_dict {K : PySem.W.Frag} : CB .fr .co (fun xs H Q => ∃ (a : Addr) (ps : List Addr) (kvs : List (Key × V)), xs = [.ref a] ∧ SqL K H a (ps.map V.ref) ∧ Paired (fun p kv => SqT K H p [kV kv.1, kv.2]) ps kvs ∧ ∀ p, H p = none → Q (.ref p) (upd H p (.dK (mergeK [] kvs)))) dictD := by
  intro H O vs ds d Q tr r hf q
  unfold dictD at hf
  split at hf
  · rename_i xs
    cases e : pairsD xs with
    | none => rw [e] at hf; cases hf
    | some ps =>
      rw [e] at hf; cases hf
      obtain ⟨v, rfl, r1⟩ := RcA.one r
      obtain ⟨p, ys, rfl, e1, r2⟩ := r1.list_inv
      obtain ⟨as, kvs, rfl, h1, h2⟩ := pairs_ok (K := K) r2 e
      refine ⟨p, as, kvs, rfl, Rd.seqL e1, h1, fun b hb => q _ _ (same_new hb) ?_⟩
      exact ⟨b, rfl, hb, .dK upd_same ((merge_ok h2 .nil).mono ((Sub.more hb).trans (Sub.same (same_new hb) _)))⟩
  · cases hf
theorem Rc.dict_inv {H : Hp} {O : AS} {ds : List (D × D)} {v : V} (r : Rc H O (.dict ds) v) : ∃ a, v = .ref a ∧ ((∃ kvs, Rd H a (.dK kvs) ∧ RpK H O ds kvs) ∨ ∃ kvs, Rd H a (.dT kvs) ∧ RpT H O ds kvs) := by
  cases r with
  | of r =>
    cases r with
    | dK h1 h2 h3 => exact ⟨_, rfl, .inl ⟨_, h2, h3⟩⟩
    | dT h1 h2 h3 => exact ⟨_, rfl, .inr ⟨_, h2, h3⟩⟩
  | rt r =>
    cases r with
    | dK e q => exact ⟨_, rfl, .inl ⟨_, .inl e, q⟩⟩
    | dT e q => exact ⟨_, rfl, .inr ⟨_, .inl e, q⟩⟩
/-- all keys are ints or texts -/
def plainK (ds : List (D × D)) : Bool := ds.all fun kv => (keyD kv.1).isSome
theorem RpT.not {H : Hp} {O : AS} {ds : List (D × D)} {kvs : List (List Key × V)} (r : RpT H O ds kvs) (h : plainK ds = true) : False := by
  cases r with
  | one a => simp [plainK, keyD] at h
  | cons a b => simp [plainK, keyD] at h
def dixD : D → D → Option D
  | .dict ds, y => if plainK ds = true then (keyD y).bind (valD ds) else none
  | _, _ => none
theorem b2_dix : B2 .pl (fun x y H Q => ∃ a v, x = .ref a ∧ DGet H a y (some v) ∧ Q v H) dixD := by
  intro H O x y dx dy d Q tr rx ry hf q
  unfold dixD at hf
  split at hf
  · rename_i ds
    split at hf
    · rename_i hp
      cases hk : keyD dy with
      | none => rw [hk] at hf; cases hf
      | some k =>
        rw [hk, Option.bind_some] at hf
        obtain ⟨a, rfl, ⟨kvs, h1, h2⟩ | ⟨kvs, h1, h2⟩⟩ := rx.dict_inv
        · rcases h2.val (k := k) with ⟨z, _⟩ | ⟨d', v, z1, z2, r⟩
          · rw [z] at hf; cases hf
          · rw [z1] at hf; cases hf
            exact ⟨a, v, rfl, .inl ⟨kvs, k, h1, rc_key hk ry, z2.symm⟩, q H _ (Same.refl H) r⟩
        · exact (h2.not hp).elim
    · cases hf
  · cases hf
theorem de_dix (hu : X.A.units + 65 < cLine) (ha : DE X G M ka a ma) (hb : DE X G M kb b mb) (hs : NoSl b) : DE X G M .pl (.Subscript a b pos) (m2 dixD ma mb) := pe_imp (pe_dget (by omega) ha.co hb.co hs) (tOp_ok b2_dix)
def inKB : D → D → Option Bool
  | y, .dict ds => if plainK ds = true then (keyD y).map fun k => (valD ds k).isSome else none
  | _, _ => none
theorem inKB_ok {H : Hp} {O : AS} {x y : V} {dx dy : D} {t : Bool} (rx : Rc H O dx x) (ry : Rc H O dy y) (h : inKB dx dy = some t) : ∃ a o, y = .ref a ∧ DGet H a x o ∧ o.isSome = t := by
  unfold inKB at h
  split at h
  · rename_i ds
    split at h
    · rename_i hp
      cases hk : keyD dx with
      | none => rw [hk] at h; cases h
      | some k =>
        rw [hk] at h; cases h
        obtain ⟨a, rfl, ⟨kvs, h1, h2⟩ | ⟨kvs, h1, h2⟩⟩ := ry.dict_inv
        · refine ⟨a, valV kvs k, rfl, .inl ⟨kvs, k, h1, rc_key hk rx, rfl⟩, ?_⟩
          rcases h2.val (k := k) with ⟨z1, z2⟩ | ⟨d', v, z1, z2, r⟩
          · show (valV kvs k).isSome = (valD ds k).isSome
            rw [z1, z2]; rfl
          · show (valV kvs k).isSome = (valD ds k).isSome
            rw [z1, z2]; rfl
        · exact (h2.not hp).elim
    · cases h
  · cases h
def inKD (x y : D) : Option D := (inKB x y).map .bool
def notInKD (x y : D) : Option D := (inKB x y).map fun b => .bool !b
theorem b2_inK : B2 .pl (fun y x H Q => ∃ a o, x = .ref a ∧ DGet H a y o ∧ Q (.bl o.isSome) H) inKD := by
  intro H O x y dx dy d Q tr rx ry hf q
  unfold inKD at hf
  cases e : inKB dx dy with
  | none => rw [e] at hf; cases hf
  | some t =>
    rw [e] at hf; cases hf
    obtain ⟨a, o, h1, h2, h3⟩ := inKB_ok rx ry e
    exact ⟨a, o, h1, h2, by rw [h3]; exact q H _ (Same.refl H) (.bl _)⟩
theorem b2_notInK : B2 .pl (fun y x H Q => ∃ a o, x = .ref a ∧ DGet H a y o ∧ Q (.bl (!o.isSome)) H) notInKD := by
  intro H O x y dx dy d Q tr rx ry hf q
  unfold notInKD at hf
  cases e : inKB dx dy with
  | none => rw [e] at hf; cases hf
  | some t =>
    rw [e] at hf; cases hf
    obtain ⟨a, o, h1, h2, h3⟩ := inKB_ok rx ry e
    exact ⟨a, o, h1, h2, by rw [h3]; exact q H _ (Same.refl H) (.bl _)⟩
end
end DL
namespace DL
open PySem PySem.Spec L2
section
variable {X : Cx} {G : Gd} {M : List Md} {k ka kb : Kd} {a b : Expr} {ma mb : Env' → Res D} {pos : Pos}
theorem de_inK (hu : X.A.units + 65 < cLine) (ha : DE X G M ka a ma) (hb : DE X G M kb b mb) (hm : behindInMarks .In b = false := by rfl) : DE X G M .pl (.Compare a [.In] [b] pos) (m2 inKD ma mb) := pe_imp (pe_cmp (pc_din (by omega) ha.co hb.co) hm) (tOp_ok b2_inK)
theorem de_notInK (hu : X.A.units + 65 < cLine) (ha : DE X G M ka a ma) (hb : DE X G M kb b mb) (hm : behindInMarks .NotIn b = false := by rfl) : DE X G M .pl (.Compare a [.NotIn] [b] pos) (m2 notInKD ma mb) := pe_imp (pe_cmp (pc_dnotin (by omega) ha.co hb.co) hm) (tOp_ok b2_notInK)
theorem tB_of {r : R2} {f : D → D → Option D} (hB : B2 .pl r f) (σ : L2.St) (H : Hp) (Q : Bool → Hp → Prop) (h : tT G M (mB (m2 f ma mb)) σ H Q) : tB (tOp r (tE G M .co ma) (tE G M .co mb)) σ H Q := by
  obtain ⟨g, O, env, sr, q⟩ := h
  refine tOp_ok (G := G) (M := M) (k := .pl) hB σ H _ ⟨g, O, env, sr, ?_⟩
  have e : mB (m2 f ma mb) env = (m2 f ma mb env).bind asB := rfl
  rw [e] at q
  revert q
  cases m2 f ma mb env with
  | err => exact fun q => q
  | exc c d => exact fun q => q
  | ok d =>
    intro q H' v s r
    cases d with
    | bool b => exact ⟨b, Rc.bl_inv (.of r), q H' s⟩
    | none => exact q.elim
    | int _ => exact q.elim
    | str _ => exact q.elim
    | list _ => exact q.elim
    | tuple _ => exact q.elim
    | dict _ => exact q.elim
theorem dt_inK (hu : X.A.units + 65 < cLine) (ha : DE X G M ka a ma) (hb : DE X G M kb b mb) (hm : behindInMarks .In b = false := by rfl) : DT X G M (.Compare a [.In] [b] pos) (mB (m2 inKD ma mb)) := pt_imp (pt_cmp (pc_din (by omega) ha.co hb.co) hm) (tB_of b2_inK)
theorem dt_notInK (hu : X.A.units + 65 < cLine) (ha : DE X G M ka a ma) (hb : DE X G M kb b mb) (hm : behindInMarks .NotIn b = false := by rfl) : DT X G M (.Compare a [.NotIn] [b] pos) (mB (m2 notInKD ma mb)) := pt_imp (pt_cmp (pc_dnotin (by omega) ha.co hb.co) hm) (tB_of b2_notInK)
end
end DL

namespace DL
open PySem PySem.Spec L2

/-! ### loops over data -/
/-- how a loop ends ahead of its last turn -/
def Out.stops : Out → Prop
  | .nx _ => False
  | .ct _ => False
  | .bk _ => False
  | _ => True
theorem loop_gen {f : D → Env' → Option Env'} {body : Env' → Out} (P : Nat → Env' → Prop) (Q : Out → Prop) : ∀ (ds : List D) (i0 : Nat) (env : Env'),
    (∀ i d e, ds[i]? = some d → P (i0 + i) e → ∃ e1, f d e = some e1 ∧ ((∃ e2, body e1 = .nx e2 ∧ P (i0 + i + 1) e2) ∨ ((body e1).stops ∧ Q (body e1)))) → P i0 env →
    (∃ e, loop f body ds env = .nx e ∧ P (i0 + ds.length) e) ∨ Q (loop f body ds env)
  | [], i0, env, _, h => .inl ⟨env, rfl, h⟩
  | d :: ds, i0, env, hs, h => by
    obtain ⟨e1, h1, h2⟩ := hs 0 d env rfl h
    unfold loop
    rw [h1]
    simp only
    rcases h2 with ⟨e2, h2, h3⟩ | ⟨h2, h3⟩
    · rw [h2]
      simp only
      have := loop_gen P Q ds (i0 + 1) e2 (fun i d e hd he => by
        have := hs (i + 1) d e (by simpa using hd) (by rw [show i0 + (i + 1) = i0 + 1 + i by omega]; exact he)
        rw [show i0 + (i + 1) + 1 = i0 + 1 + i + 1 by omega] at this
        exact this) h3
      rw [show i0 + 1 + ds.length = i0 + (d :: ds).length by simp; omega] at this
      exact this
    · refine .inr ?_
      cases hb : body e1 <;> rw [hb] at h2 h3 <;> first | exact h2.elim | exact h3
/-- a loop that goes on to its end -/
theorem loop_all {f : D → Env' → Option Env'} {body : Env' → Out} (P : Nat → Env' → Prop) {ds : List D} {env : Env'}
    (hs : ∀ i d e, ds[i]? = some d → P i e → ∃ e1 e2, f d e = some e1 ∧ body e1 = .nx e2 ∧ P (i + 1) e2) (h : P 0 env) : ∃ e, loop f body ds env = .nx e ∧ P ds.length e := by
  rcases loop_gen P (fun _ => False) ds 0 env (fun i d e hd he => by
    rw [Nat.zero_add] at he ⊢
    obtain ⟨e1, e2, h1, h2, h3⟩ := hs i d e hd he
    exact ⟨e1, h1, .inl ⟨e2, h2, h3⟩⟩) h with h | h
  · rw [Nat.zero_add] at h; exact h
  · exact h.elim
/-- a while with a measure -/
theorem wloop_all {nc : Env' → Res Bool} {body : Env' → Out} (P : Nat → Env' → Prop) (hs : ∀ n e, P n e → (nc e = .ok false) ∨ (nc e = .ok true ∧ ∃ e2 k, body e = .nx e2 ∧ k < n ∧ P k e2)) :
    ∀ (n fuel : Nat) (env : Env'), n < fuel → P n env → ∃ e k, wloop nc body fuel env = .nx e ∧ nc e = .ok false ∧ P k e ∧ k ≤ n := by
  intro n
  induction n using Nat.strongRecOn with
  | _ n ih =>
    intro fuel env hf h
    obtain ⟨fuel, rfl⟩ : ∃ m, fuel = m + 1 := ⟨fuel - 1, by omega⟩
    unfold wloop
    rcases hs n env h with h1 | ⟨h1, e2, k, h2, h3, h4⟩
    · rw [h1]
      simp only [exOut_ok, Bool.false_eq_true, if_false]
      exact ⟨env, n, rfl, h1, h, Nat.le_refl _⟩
    · rw [h1]
      simp only [exOut_ok, if_true, h2]
      obtain ⟨e, k', q1, q2, q3, q4⟩ := ih k h3 fuel e2 (by omega) h4
      exact ⟨e, k', q1, q2, q3, by omega⟩
/-- a search over 0 .. n - 1 -/
theorem loop_find {v n : Nat} {body : Env' → Out} {env : Env'} (p : Nat → Bool) (r : Nat → D) (hb : ∀ k, k < n → body (env.set v (some (.int (k : Int)))) = if p k = true then .rt (r k) else .nx (env.set v (some (.int (k : Int))))) :
    (∃ k, (List.range n).find? p = some k ∧ loop (gN v) body (rng 0 n) env = .rt (r k)) ∨ ((List.range n).find? p = none ∧ ∃ e, loop (gN v) body (rng 0 n) env = .nx e ∧ (e = env ∨ ∃ j, e = env.set v (some j))) := by
  have key : ∀ (ks : List Nat), (∀ k ∈ ks, k < n) → ∀ e, (e = env ∨ ∃ j, e = env.set v (some j)) →
      (∃ k, ks.find? p = some k ∧ loop (gN v) body (ks.map fun (i : Nat) => PyData.int (0 + (i : Int))) e = .rt (r k)) ∨ (ks.find? p = none ∧ ∃ e', loop (gN v) body (ks.map fun (i : Nat) => PyData.int (0 + (i : Int))) e = .nx e' ∧ (e' = env ∨ ∃ j, e' = env.set v (some j))) := by
    intro ks
    induction ks with
    | nil => intro _ e he; exact .inr ⟨rfl, e, rfl, he⟩
    | cons k ks ih =>
      intro hk e he
      have e1 : e.set v (some (.int (0 + (k : Int)))) = env.set v (some (.int (k : Int))) := by
        rw [Int.zero_add]
        rcases he with rfl | ⟨j, rfl⟩
        · rfl
        · rw [List.set_set]
      have e2 := hb k (hk k (by simp))
      simp only [List.map_cons, loop, gN]
      rw [e1, e2]
      by_cases hp : p k = true
      · rw [if_pos hp]
        exact .inl ⟨k, by simp [hp], rfl⟩
      · rw [if_neg hp]
        have hp' : p k = false := by simpa using hp
        rcases ih (fun q hq => hk q (by simp [hq])) _ (.inr ⟨_, rfl⟩) with ⟨q, h1, h2⟩ | ⟨h1, h2⟩
        · exact .inl ⟨q, by simp [hp', h1], h2⟩
        · refine .inr ⟨?_, h2⟩
          rw [List.find?_cons, hp']
          exact h1
  exact key (List.range n) (fun k h => by simpa using h) env (.inl rfl)
/-- a comprehension over one name -/
theorem lc_map {v : Nat} {m : Env' → Res D} {nc : Env' → Res Bool} {env : Env'} (p : D → Bool) (g : D → D) : ∀ {ds : List D}, (∀ d ∈ ds, nc (env.set v (some d)) = .ok (p d) ∧ (p d = true → m (env.set v (some d)) = .ok (g d))) →
    lcG (gN v) nc m ds env = .ok ((ds.filter p).map g)
  | [], _ => rfl
  | d :: ds, h => by
    obtain ⟨h1, h2⟩ := h d (by simp)
    have ih := lc_map p g (ds := ds) fun z hz => h z (by simp [hz])
    simp only [lcG, gN]
    rw [h1]
    simp only [noX, Res.bind_ok]
    cases hp : p d with
    | false => simp only [Bool.false_eq_true, if_false]; rw [ih, List.filter_cons, hp]; simp
    | true =>
      rw [h2 hp]
      simp only [if_true, noX, Res.bind_ok]
      rw [ih, List.filter_cons, hp]
      simp
theorem lc_all {v : Nat} {m : Env' → Res D} {env : Env'} (g : D → D) {ds : List D} (h : ∀ d ∈ ds, m (env.set v (some d)) = .ok (g d)) : lcG (gN v) bYes m ds env = .ok (ds.map g) := by
  have := lc_map (v := v) (m := m) (nc := bYes) (env := env) (fun _ => true) g (ds := ds) fun d hd => ⟨rfl, fun _ => h d hd⟩
  rw [List.filter_eq_self.mpr (fun _ _ => rfl)] at this
  exact this
/-! ### places -/
theorem ix_nat {ds : List D} {n : Nat} {d : D} (h : ds[n]? = some d) : ixD (.list ds) (.int (n : Int)) = some d := by
  have hn : n < ds.length := (List.getElem?_eq_some_iff.mp h).1
  have h2 : (n : Int) < ds.length := by omega
  simp [ixD, L2.atI, ixN, h2, h]
theorem ix_int {ds : List D} {i : Int} {n : Nat} {d : D} (hi : i = n) (h : ds[n]? = some d) : ixD (.list ds) (.int i) = some d := by rw [hi]; exact ix_nat h
theorem ix_tup {ds : List D} {n : Nat} {d : D} (h : ds[n]? = some d) : ixD (.tuple ds) (.int (n : Int)) = some d := by
  have hn : n < ds.length := (List.getElem?_eq_some_iff.mp h).1
  have h2 : (n : Int) < ds.length := by omega
  simp [ixD, L2.atI, ixN, h2, h]
def txS (xs : List Nat) : Str := ⟨xs.toArray⟩
theorem txS_length (xs : List Nat) : (txS xs).length = xs.length := by simp [txS, Str.length]
theorem txS_append (xs ys : List Nat) : txS xs ++ txS ys = txS (xs ++ ys) := by
  show Str.append _ _ = _
  simp [txS, Str.append]
theorem txS_inj {xs ys : List Nat} (h : txS xs = txS ys) : xs = ys := by
  have : xs.toArray = ys.toArray := by injection h
  simpa using this
theorem ix_str {xs : List Nat} {n c : Nat} (hz : xs.length ≤ sizeLine) (h : xs[n]? = some c) : ixD (.str (txS xs)) (.int (n : Int)) = some (.str (txS [c])) := by
  have hn : n < xs.length := (List.getElem?_eq_some_iff.mp h).1
  have h2 : (n : Int) < xs.length := by omega
  simp only [ixD, txS_length, hz, if_true]
  simp [txS, L2.atI, ixN, h2, h]
/-! ### int lists -/
theorem rng_get (lo : Int) (n i : Nat) : (rng lo n)[i]? = if i < n then some (.int (lo + i)) else none := by
  unfold rng
  by_cases h : i < n <;> simp [h]
end DL

namespace DL
open PySem PySem.Spec L2
/-! ### what the mirrors are at an environment -/
section
variable {env : Env'} {i n : Nat} {d : D} {m ma mb mc : Env' → Res D} {ms ms' : Env' → Res (List D)} {nb nc : Env' → Res Bool} {ml mh : Env' → Res (Option Int)} {o o1 o2 : Env' → Out} {f f' : D → D → Option D}
theorem ap_var : mVar i env = match env[i]? with
  | some (some d) => .ok d
  | _ => .err := rfl
theorem ap_c : mC d env = .ok d := rfl
theorem ap_m1 {g : D → Option D} : m1 g ma env = (ma env).bind fun x => Res.of (g x) := rfl
theorem ap_m2 : m2 f ma mb env = (ma env).bind fun x => (mb env).bind fun y => Res.of (f x y) := rfl
theorem ap_m3 {g : D → Option Int → Option Int → Option D} : m3 g ma ml mh env = (ma env).bind fun x => (ml env).bind fun l => (mh env).bind fun h => Res.of (g x l h) := rfl
theorem ap_part : mPart ma env = (ma env).bind fun d => match d with
  | .int i => .ok (some i)
  | _ => .err := rfl
theorem ap_nopart : mNoPart env = .ok none := rfl
theorem ap_if : mIf nc ma mb env = (nc env).bind fun b => if b = true then ma env else mb env := rfl
theorem ap_isN : mIsN ma env = (ma env).bind fun x => .ok (.bool (isND x)) := rfl
theorem ap_notN : mNotN ma env = (ma env).bind fun x => .ok (.bool (!isND x)) := rfl
theorem ap_list : mList ms env = (ms env).bind fun ds => if ds.length ≤ sizeLine then .ok (.list ds) else .err := rfl
theorem ap_tup : mTup ms env = (ms env).bind fun ds => if ds.length ≤ sizeLine then .ok (.tuple ds) else .err := rfl
theorem ap_nil : aNil env = .ok [] := rfl
theorem ap_cons : aCons m ms env = (m env).bind fun d => (ms env).bind fun ds => .ok (d :: ds) := rfl
theorem ap_cb {g : List D → Option D} : mCB g ms env = (ms env).bind fun ds => Res.of (g ds) := rfl
theorem ap_m1m {ok : D → Bool} {g : D → List D → Option D} : mM1 ok g ma ms env = (ma env).bind fun x => if ok x = true then (ms env).bind fun ds => Res.of (g x ds) else .err := rfl
theorem ap_chain : mChain f f' ma mb mc env = (ma env).bind fun x => (mb env).bind fun y => (Res.of (f x y)).bind fun z => (asB z).bind fun k => if k = true then (mc env).bind fun w => Res.of (f' y w) else .ok (.bool false) := rfl
theorem ap_isi {T : String} : mIsi T m env = (m env).bind fun x => Res.of (isiD T x) := rfl
theorem ap_mB : mB m env = (m env).bind asB := rfl
theorem ap_asB {b : Bool} : asB (.bool b) = .ok b := rfl
theorem ap_and : bAnd nb nc env = (nb env).bind fun b => if b = true then nc env else .ok false := rfl
theorem ap_or : bOr nb nc env = (nb env).bind fun b => if b = true then .ok true else nc env := rfl
theorem ap_not : bNot nb env = (nb env).bind fun b => .ok (!b) := rfl
theorem ap_yes : bYes env = .ok true := rfl
theorem ap_call {mf : List D → Res D} : mCall mf ms env = (ms env).bind mf := rfl
theorem ap_lc {mi : Env' → Res (List D)} {g : D → Env' → Option Env'} {vs : List Nat} : mLc mi g nc m vs env = (mi env).bind fun ds => (noX (lcG g nc m ds (wipeE env vs))).bind fun ys => if ys.length ≤ sizeLine then .ok (.list ys) else .err := rfl
theorem ap_noX {α : Type} {a : α} : noX (.ok a) = .ok a := rfl
theorem ap_iseq : iSeq m env = (m env).bind walkD := rfl
theorem ap_irange : iRange ms env = (ms env).bind rangeD := rfl
theorem ap_iown : iOwn m env = (m env).bind fun d => match d with
  | .list ds => .ok ds
  | _ => .err := rfl
/-- on to the next -/
def Out.th (x : Out) (o : Env' → Out) : Out := match x with
  | .nx e => o e
  | x => x
theorem ap_seq : oSeq o1 o2 env = (o1 env).th o2 := rfl
theorem th_nx : (Out.nx env).th o = o env := rfl
theorem th_rt : (Out.rt d).th o = .rt d := rfl
theorem th_exc {c : Str} : (Out.exc c d env).th o = .exc c d env := rfl
theorem ap_skip : oSkip env = .nx env := rfl
theorem ap_set : oSet i m env = exOut (m env) env fun d => .nx (env.set i (some d)) := rfl
theorem ap_asg {g : D → Env' → Option Env'} : oAsg m g env = exOut (m env) env fun d => match g d env with
  | some e => .nx e
  | none => .err := rfl
theorem ap_aug : oAug i f m env = exOut (mVar i env) env fun x => exOut (m env) env fun y => match f x y with
  | some d => .nx (env.set i (some d))
  | none => .err := rfl
theorem ap_lm {fl : List D → List D → Option (List D)} : oLM i fl ms env = match env[i]? with
  | some (some (.list is)) => exOut (ms env) env fun ds => match fl is ds with
    | some js => .nx (env.set i (some (.list js)))
    | none => .err
  | _ => .err := rfl
theorem ap_put : oPut i ma m env = exOut (m env) env fun d => match env[i]? with
  | some (some (.list is)) => exOut (ma env) env fun j => match j with
    | .int j => match ixN is.length j with
      | some n => .nx (env.set i (some (.list (is.set n d))))
      | none => .err
    | _ => .err
  | _ => .err := rfl
theorem ap_oif : oIf nc o1 o2 env = exOut (nc env) env fun b => if b = true then o1 env else o2 env := rfl
theorem ap_ret : oRet m env = exOut (m env) env .rt := rfl
theorem ap_drop : oDrop m env = exOut (m env) env fun _ => .nx env := rfl
theorem ap_raise {c : Str} : oRaise c m env = exOut (m env) env fun d => .exc c d env := rfl
theorem ap_gN : gN i d env = some (env.set i (some d)) := rfl
theorem ap_gT {g : List D → Env' → Option Env'} {ds : List D} : gT' n g (.tuple ds) env = if ds.length = n then g ds env else none := rfl
theorem ap_gsN : gsN [] env = some env := rfl
theorem ap_gsC {g : D → Env' → Option Env'} {gs : List D → Env' → Option Env'} {ds : List D} : gsC g gs (d :: ds) env = (g d env).bind (gs ds) := rfl
theorem ap_app {is : List D} : lApp is [d] = if is.length < sizeLine then some (is ++ [d]) else none := rfl
theorem ap_for {mi : Env' → Res (List D)} {g : D → Env' → Option Env'} : oFor mi g o env = exOut (mi env) env fun ds => loop g o ds env := rfl
theorem sz_ge {n : Nat} (h : n ≤ 16777216) : n ≤ sizeLine := h
theorem sz_gt {n : Nat} (h : n < 16777216) : n < sizeLine := h
theorem run_rt {kr : Kd} {n : Nat} {ds : List D} (h : o (ds.map some ++ List.replicate (n - ds.length) none) = .rt d) : runD kr n o ds = .ok d := by
  unfold runD; rw [h]
theorem run_exc {kr : Kd} {n : Nat} {ds : List D} {c : Str} {e : Env'} (h : o (ds.map some ++ List.replicate (n - ds.length) none) = .exc c d e) : runD kr n o ds = .exc c d := by
  unfold runD; rw [h]
theorem run_nx {n : Nat} {ds : List D} {e : Env'} (h : o (ds.map some ++ List.replicate (n - ds.length) none) = .nx e) : runD .pl n o ds = .ok .none := by
  unfold runD; rw [h]
theorem seq_nx {e : Env'} {r : Out} (h1 : o1 env = .nx e) (h2 : o2 e = r) : oSeq o1 o2 env = r := by
  rw [ap_seq, h1]; exact h2
theorem seq_ex {e : Env'} {C : Out → Prop} (h1 : o1 env = .nx e) (h2 : ∃ x, o2 e = x ∧ C x) : ∃ x, oSeq o1 o2 env = x ∧ C x := by
  obtain ⟨x, h2, h3⟩ := h2
  exact ⟨x, seq_nx h1 h2, h3⟩
theorem for_ok {mi : Env' → Res (List D)} {g : D → Env' → Option Env'} {ds : List D} {r : Out} (h : mi env = .ok ds) (h2 : loop g o ds env = r) : oFor mi g o env = r := by
  rw [ap_for, h]; exact h2
theorem for_all {mi : Env' → Res (List D)} {g : D → Env' → Option Env'} (P : Nat → Env' → Prop) (ds : List D) (hi : mi env = .ok ds) (h0 : P 0 env)
    (hs : ∀ i d e, ds[i]? = some d → P i e → ∃ e1 e2, g d e = some e1 ∧ o e1 = .nx e2 ∧ P (i + 1) e2) : ∃ e, oFor mi g o env = .nx e ∧ P ds.length e := by
  obtain ⟨e, h1, h2⟩ := loop_all P hs h0
  exact ⟨e, for_ok hi h1, h2⟩
theorem seq_for {mi : Env' → Res (List D)} {g : D → Env' → Option Env'} {C : Out → Prop} (P : Nat → Env' → Prop) (ds : List D) (hi : mi env = .ok ds) (h0 : P 0 env)
    (hs : ∀ i d e, ds[i]? = some d → P i e → ∃ e1 e2, g d e = some e1 ∧ o e1 = .nx e2 ∧ P (i + 1) e2) (hk : ∀ e, P ds.length e → ∃ x, o2 e = x ∧ C x) : ∃ x, oSeq (oFor mi g o) o2 env = x ∧ C x := by
  obtain ⟨e, h1, h2⟩ := for_all P ds hi h0 hs
  exact seq_ex h1 (hk e h2)
theorem seq_while {C : Out → Prop} (P : Nat → Env' → Prop) (n : Nat) {fuel : Nat} (hf : n < fuel) (h0 : P n env) (hs : ∀ n e, P n e → (nc e = .ok false) ∨ (nc e = .ok true ∧ ∃ e2 k, o e = .nx e2 ∧ k < n ∧ P k e2))
    (hk : ∀ k e, P k e → nc e = .ok false → ∃ x, o2 e = x ∧ C x) : ∃ x, oSeq (wloop nc o fuel) o2 env = x ∧ C x := by
  obtain ⟨e, k, h1, h2, h3, _⟩ := wloop_all P hs n fuel env hf h0
  exact seq_ex h1 (hk k e h3 h2)
theorem seq_find {v n : Nat} {mi : Env' → Res (List D)} (p : Nat → Bool) (r : Nat → D) (hi : mi env = .ok (rng 0 n)) (hb : ∀ k, k < n → o (env.set v (some (.int (k : Int)))) = if p k = true then .rt (r k) else .nx (env.set v (some (.int (k : Int))))) :
    (∃ k, (List.range n).find? p = some k ∧ oSeq (oFor mi (gN v) o) o2 env = .rt (r k)) ∨ ((List.range n).find? p = none ∧ ∃ e, (e = env ∨ ∃ j, e = env.set v (some j)) ∧ oSeq (oFor mi (gN v) o) o2 env = o2 e) := by
  rcases loop_find p r hb with ⟨k, h1, h2⟩ | ⟨h1, e, h2, h3⟩
  · exact .inl ⟨k, h1, by rw [ap_seq, for_ok hi h2]; rfl⟩
  · exact .inr ⟨h1, e, h3, by rw [ap_seq, for_ok hi h2]; rfl⟩
end
theorem irange_ok {env : Env'} {ms : Env' → Res (List D)} {l ds : List D} (h : ms env = .ok l) (h2 : rangeD l = .ok ds) : iRange ms env = .ok ds := by
  rw [ap_irange, h]; exact h2
theorem add_ii {i j : Int} : addD (.int i) (.int j) = some (.int (i + j)) := rfl
theorem sub_ii {i j : Int} : subD (.int i) (.int j) = some (.int (i - j)) := rfl
theorem ap_lenL {ds : List D} : lenD [.list ds] = some (.int ds.length) := rfl
theorem ap_lenT {ds : List D} : lenD [.tuple ds] = some (.int ds.length) := rfl
theorem ap_lenS {xs : List Nat} (h : xs.length ≤ sizeLine) : lenD [.str (txS xs)] = some (.int xs.length) := by
  have h' : (txS xs).length ≤ sizeLine := by rw [txS_length]; exact h
  show (if (txS xs).length ≤ sizeLine then some (PyData.int (txS xs).length) else none) = _
  rw [if_pos h', txS_length]
theorem range1 {n : Nat} (h : n < 4611686018427387904) : rangeD [.int (n : Int)] = .ok (rng 0 n) := by
  have : small62 (n : Int) := by unfold small62; omega
  simp [rangeD, this]
theorem cut_all {α : Type} (xs : List α) (k : Nat) (h : xs.length ≤ k) : cut xs none (some (k : Int)) = xs := by
  have e : ¬ ((k : Int) < 0) := by omega
  simp only [cut, HT.sIx, if_neg e, List.drop_zero, Int.toNat_natCast, Nat.sub_zero]
  rw [Nat.min_eq_right h, List.take_length]
theorem ix_str1 {x : Str} (s : String) {i : Int} {d : Option D} (h : ixD (.str (Str.ofString s)) (.int i) = d) : ixD (.str (s : String)) (.int i) = d := h
end DL

namespace DL
open PySem PySem.Spec L2
/-- data that is shown without trouble -/
structure Sm (w dp : Nat) (d : D) : Prop where
  lay : PyData.canLay0 d = true
  shw : PyData.showable d = true
  dep : PyData.depth d ≤ dp
  wei : PyData.weight d ≤ w
  shi : PyData.intsShort 13 d = true
theorem Sm.mono {w dp w' dp' : Nat} {d : D} (h : Sm w dp d) (h1 : w ≤ w') (h2 : dp ≤ dp') : Sm w' dp' d := ⟨h.lay, h.shw, Nat.le_trans h.dep h2, Nat.le_trans h.wei h1, h.shi⟩
theorem Sm.none : Sm 0 0 .none := ⟨by simp [PyData.canLay0], by simp [PyData.showable], by simp [PyData.depth], by simp [PyData.weight], by simp [PyData.intsShort]⟩
theorem Sm.bool {b : Bool} : Sm 0 0 (.bool b) := ⟨by simp [PyData.canLay0], by simp [PyData.showable], by simp [PyData.depth], by simp [PyData.weight], by simp [PyData.intsShort]⟩
theorem Sm.int {n : Nat} (h : n < 10000000000000) : Sm 64 0 (.int n) := by
  have hl : n.log2 < 44 := by
    by_cases hz : n = 0
    · subst hz; decide
    · exact (Nat.log2_lt hz).mpr (by omega)
  refine ⟨by simp [PyData.canLay0], ?_, by simp [PyData.depth], ?_, ?_⟩
  · simp [PyData.showable]; omega
  · simp only [PyData.weight]
    split
    · omega
    · rw [Int.natAbs_natCast]; omega
  · simp only [PyData.intsShort, PyData.shown]
    refine decide_eq_true ?_
    exact PyProof.Rows.toString_length_le (v := (n : Int)) (k := 13) (by omega) (by decide) (by omega)
theorem Sm.str {x : Str} (h : PyData.strOk x = true) : Sm x.length 0 (.str x) := ⟨by simpa [PyData.canLay0] using h, by simp [PyData.showable], by simp [PyData.depth], by simp [PyData.weight, Str.length], by simp [PyData.intsShort]⟩
theorem Sm.all {w dp : Nat} : ∀ {ds : List D}, (∀ d ∈ ds, Sm w dp d) → PyData.canLayAll0 ds = true ∧ PyData.showableAll ds = true ∧ PyData.depthAll ds ≤ dp ∧ PyData.weightAll ds ≤ (w + 1) * ds.length ∧ PyData.intsShortAll 13 ds = true
  | [], _ => ⟨by simp [PyData.canLayAll0], by simp [PyData.showableAll], by simp [PyData.depthAll], by simp [PyData.weightAll], by simp [PyData.intsShortAll]⟩
  | d :: ds, h => by
    obtain ⟨h1, h2, h3, h4, h5⟩ := Sm.all (ds := ds) fun z hz => h z (by simp [hz])
    have h0 := h d (by simp)
    refine ⟨by simp [PyData.canLayAll0, h1, h0.lay], by simp [PyData.showableAll, h2, h0.shw], ?_, ?_, by simp [PyData.intsShortAll, h5, h0.shi]⟩
    · simp only [PyData.depthAll]; have := h0.dep; omega
    · simp only [PyData.weightAll, List.length_cons, Nat.mul_add]
      have := h0.wei
      omega
theorem Sm.list {w dp : Nat} {ds : List D} (h : ∀ d ∈ ds, Sm w dp d) : Sm ((w + 1) * ds.length) (dp + 1) (.list ds) := by
  obtain ⟨h1, h2, h3, h4, h5⟩ := Sm.all h
  exact ⟨by simpa [PyData.canLay0] using h1, by simpa [PyData.showable] using h2, by simp only [PyData.depth]; omega, by simpa [PyData.weight] using h4, by simpa [PyData.intsShort] using h5⟩
theorem Sm.tuple {w dp : Nat} {ds : List D} (h : ∀ d ∈ ds, Sm w dp d) : Sm ((w + 1) * ds.length) (dp + 1) (.tuple ds) := by
  obtain ⟨h1, h2, h3, h4, h5⟩ := Sm.all h
  exact ⟨by simpa [PyData.canLay0] using h1, by simpa [PyData.showable] using h2, by simp only [PyData.depth]; omega, by simpa [PyData.weight] using h4, by simpa [PyData.intsShort] using h5⟩
theorem Sm.repr {w dp : Nat} {d : D} (h : Sm w dp d) (hw : w ≤ 1048576) (hd : dp ≤ 64) : reprD [d] = some (.str d.shown) := by
  have h1 := h.dep
  have h2 := h.wei
  have hl : PyData.layable0 d = true := by
    have : PyData.weight d ≤ 2 ^ 20 := by omega
    simp only [PyData.layable0, h.lay, Bool.true_and, Bool.and_eq_true, decide_eq_true_eq]
    exact ⟨by omega, this⟩
  have h3 := PyData.shown_fits_of_layable0 (B := 13) (by decide) (by decide) hl h.shi
  have : reprOk d = true := by
    simp only [reprOk, h.lay, h.shw, Bool.true_and, Bool.and_eq_true, decide_eq_true_eq]
    exact ⟨by omega, h3⟩
  simp only [reprD, this, if_true]
theorem Sm.shaped {w dp : Nat} {d : D} (h : Sm w dp d) (hd : dp ≤ 64) : SeqAt.shaped d = true := by
  have := h.dep
  simp only [SeqAt.shaped, h.lay, Bool.true_and, decide_eq_true_eq]
  omega
theorem strOk_low {xs : List Nat} (h : ∀ c ∈ xs, c < 128) : PyData.strOk (txS xs) = true := by
  simp only [PyData.strOk, txS, Array.all_eq_true_iff_forall_mem]
  intro c hc
  have := h c (by simpa using hc)
  simp
  omega
end DL

namespace K48
open PySem PySem.Spec L2 DL
def top (i : Nat) : Stmt := PySem.Challenge.pw_suffixhouse_k48_words_cut_by_a_house.main.body.getD i (.Pass ⟨0, 0, 0, 0⟩)
def n_alike : List Str := ["one", "i", "two", "j", "size"]
def p_alike : List Str := ["one", "i", "two", "j"]
abbrev s_alike : Stmt := top 1
theorem sc_alike : FnScope n_alike p_alike (defScope s_alike) := ⟨rfl, rfl, rfl, by decide +kernel, rfl, by decide +kernel, by decide +kernel⟩
def o_alike : Env' → Out := (oSeq (oSet 4 (mC (.int 0))) (oSeq (wloop (bAnd (mB (m2 ltI (m2 addD (mVar 1) (mVar 4)) (mCB lenD (aCons (mVar 0) aNil)))) (bAnd (mB (m2 ltI (m2 addD (mVar 3) (mVar 4)) (mCB lenD (aCons (mVar 2) aNil)))) (mB (m2 eqD (m2 ixD (mVar 0) (m2 addD (mVar 1) (mVar 4))) (m2 ixD (mVar 2) (m2 addD (mVar 3) (mVar 4))))))) (oAug 4 augAdd (mC (.int 1))) wfuel) (oRet (mVar 4))))
def m_alike : List D → Res D := runD .pl 5 o_alike
def n_size_of : List Str := ["piece"]
def p_size_of : List Str := ["piece"]
abbrev s_size_of : Stmt := top 2
theorem sc_size_of : FnScope n_size_of p_size_of (defScope s_size_of) := ⟨rfl, rfl, rfl, by decide +kernel, rfl, by decide +kernel, by decide +kernel⟩
def o_size_of : Env' → Out := (oSeq (oIf (mB (m2 eqD (m2 ixD (mVar 0) (mC (.int 0))) (mC (.str "letter")))) (oRet (mC (.int 1))) oSkip) (oRet (m2 ixD (mVar 0) (mC (.int 3)))))
def m_size_of : List D → Res D := runD .pl 1 o_size_of
def n_longest_stretch : List Str := ["house", "word", "start", "best", "number", "text", "k", "size"]
def p_longest_stretch : List Str := ["house", "word", "start"]
abbrev s_longest_stretch : Stmt := top 3
theorem sc_longest_stretch : FnScope n_longest_stretch p_longest_stretch (defScope s_longest_stretch) := ⟨rfl, rfl, rfl, by decide +kernel, rfl, by decide +kernel, by decide +kernel⟩
def o_longest_stretch : Env' → Out := (oSeq (oSet 3 (mTup (aCons (mC (.int 0)) (aCons (mC .none) aNil)))) (oSeq (oFor (iSeq (mVar 0)) (gT' 2 (gsC (gN 4) (gsC (gN 5) gsN))) (oSeq (oFor (iRange (aCons (mCB lenD (aCons (mVar 5) aNil)) aNil)) (gN 6) (oSeq (oSet 7 (mCall m_alike (aCons (mVar 1) (aCons (mVar 2) (aCons (mVar 5) (aCons (mVar 6) aNil)))))) (oSeq (oIf (mB (m2 gtI (mVar 7) (m2 ixD (mVar 3) (mC (.int 0))))) (oSet 3 (mTup (aCons (mVar 7) (aCons (mTup (aCons (mVar 4) (aCons (mVar 6) aNil))) aNil)))) oSkip) oSkip))) oSkip)) (oRet (mVar 3))))
def m_longest_stretch : List D → Res D := runD .pl 8 o_longest_stretch
def n_cut_word : List Str := ["house", "word", "pieces", "start", "size", "place"]
def p_cut_word : List Str := ["house", "word"]
abbrev s_cut_word : Stmt := top 4
theorem sc_cut_word : FnScope n_cut_word p_cut_word (defScope s_cut_word) := ⟨rfl, rfl, rfl, by decide +kernel, rfl, by decide +kernel, by decide +kernel⟩
def o_cut_word : Env' → Out := (oSeq (oSet 2 (mList aNil)) (oSeq (oSet 3 (mC (.int 0))) (oSeq (wloop (mB (m2 ltI (mVar 3) (mCB lenD (aCons (mVar 1) aNil)))) (oSeq (oAsg (mCall m_longest_stretch (aCons (mVar 0) (aCons (mVar 1) (aCons (mVar 3) aNil)))) (gT' 2 (gsC (gN 4) (gsC (gN 5) gsN)))) (oSeq (oIf (mB (m2 eqD (mVar 4) (mC (.int 0)))) (oLM 2 lApp (aCons (mTup (aCons (mC (.str "letter")) (aCons (m2 ixD (mVar 1) (mVar 3)) aNil))) aNil)) (oLM 2 lApp (aCons (mTup (aCons (mC (.str "copy")) (aStar (mVar 5) (aCons (mVar 4) aNil)))) aNil))) (oSeq (oAug 3 augAdd (mCB maxD (aCons (mVar 4) (aCons (mC (.int 1)) aNil)))) oSkip))) wfuel) (oRet (mVar 2)))))
def m_cut_word : List D → Res D := runD .fr 6 o_cut_word
def n_places : List Str := ["house", "word", "found", "number", "text", "start"]
def p_places : List Str := ["house", "word"]
abbrev s_places : Stmt := top 6
theorem sc_places : FnScope n_places p_places (defScope s_places) := ⟨rfl, rfl, rfl, by decide +kernel, rfl, by decide +kernel, by decide +kernel⟩
def o_places : Env' → Out := (oSeq (oSet 2 (mList aNil)) (oSeq (oFor (iSeq (mVar 0)) (gT' 2 (gsC (gN 3) (gsC (gN 4) gsN))) (oSeq (oFor (iRange (aCons (m2 addD (m2 subD (mCB lenD (aCons (mVar 4) aNil)) (mCB lenD (aCons (mVar 1) aNil))) (mC (.int 1))) aNil)) (gN 5) (oSeq (oIf (mB (m2 eqD (m3 slD (mVar 4) (mPart (mVar 5)) (mPart (m2 addD (mVar 5) (mCB lenD (aCons (mVar 1) aNil))))) (mVar 1))) (oLM 2 lApp (aCons (mTup (aCons (mVar 3) (aCons (mVar 5) aNil))) aNil)) oSkip) oSkip)) oSkip)) (oRet (mVar 2))))
def m_places : List D → Res D := runD .fr 6 o_places
def n_told_windows : List Str := ["pieces", "size", "found", "start", "piece", "stop"]
def p_told_windows : List Str := ["pieces", "size"]
abbrev s_told_windows : Stmt := top 8
theorem sc_told_windows : FnScope n_told_windows p_told_windows (defScope s_told_windows) := ⟨rfl, rfl, rfl, by decide +kernel, rfl, by decide +kernel, by decide +kernel⟩
def o_told_windows : Env' → Out := (oSeq (oSet 2 (mList aNil)) (oSeq (oSet 3 (mC (.int 0))) (oSeq (oFor (iSeq (mVar 0)) (gN 4) (oSeq (oSet 5 (m2 addD (mVar 3) (mCall m_size_of (aCons (mVar 4) aNil)))) (oSeq (oIf (mB (m2 ltI (mVar 5) (mVar 1))) (oLM 2 lApp (aCons (mTup (aCons (mVar 3) (aCons (mVar 5) aNil))) aNil)) oSkip) (oSeq (oSet 3 (mVar 5)) oSkip)))) (oRet (mVar 2)))))
def m_told_windows : List D → Res D := runD .fr 6 o_told_windows
def n_are_apart : List Str := ["some", "k"]
def p_are_apart : List Str := ["some"]
abbrev s_are_apart : Stmt := top 9
theorem sc_are_apart : FnScope n_are_apart p_are_apart (defScope s_are_apart) := ⟨rfl, rfl, rfl, by decide +kernel, rfl, by decide +kernel, by decide +kernel⟩
def o_are_apart : Env' → Out := (oSeq (oFor (iRangeG (aCons (mC (.int 1)) (aCons (mCB lenD (aCons (mVar 0) aNil)) aNil))) (gN 1) (oSeq (oIf (bOr (mB (m2 geDD (m2 ixD (mVar 0) (m2 subD (mVar 1) (mC (.int 1)))) (m2 ixD (mVar 0) (mVar 1)))) (bAnd (mB (m2 eqD (m2 ixD (m2 ixD (mVar 0) (m2 subD (mVar 1) (mC (.int 1)))) (mC (.int 0))) (m2 ixD (m2 ixD (mVar 0) (mVar 1)) (mC (.int 0))))) (mB (m2 ltI (m2 ixD (m2 ixD (mVar 0) (mVar 1)) (mC (.int 1))) (m2 ixD (m2 ixD (mVar 0) (m2 subD (mVar 1) (mC (.int 1)))) (mC (.int 2))))))) (oRet (mC (.bool false))) oSkip) oSkip)) (oRet (mC (.bool true))))
def m_are_apart : List D → Res D := runD .pl 2 o_are_apart
def n_word_windows : List Str := ["house", "word"]
def p_word_windows : List Str := ["house", "word"]
abbrev s_word_windows : Stmt := top 10
theorem sc_word_windows : FnScope n_word_windows p_word_windows (defScope s_word_windows) := ⟨rfl, rfl, rfl, by decide +kernel, rfl, by decide +kernel, by decide +kernel⟩
def o_word_windows : Env' → Out := (oRet (mCall m_told_windows (aCons (mCall m_cut_word (aCons (mVar 0) (aCons (mVar 1) aNil))) (aCons (mCB lenD (aCons (mVar 1) aNil)) aNil))))
def m_word_windows : List D → Res D := runD .pl 2 o_word_windows
def n_are_pieces_of : List Str := ["house", "word", "pieces", "texts", "start", "piece", "told", "_", "number", "k", "size"]
def p_are_pieces_of : List Str := ["house", "word", "pieces"]
abbrev s_are_pieces_of : Stmt := top 11
theorem sc_are_pieces_of : FnScope n_are_pieces_of p_are_pieces_of (defScope s_are_pieces_of) := ⟨rfl, rfl, rfl, by decide +kernel, rfl, by decide +kernel, by decide +kernel⟩
def o_are_pieces_of : Env' → Out := (oSeq (oSet 3 (mCB dictD (aCons (mVar 0) aNil))) (oSeq (oSet 4 (mC (.int 0))) (oSeq (oFor (iSeq (mVar 2)) (gN 5) (oSeq (oIf (mB (m2 eqD (m2 ixD (mVar 5) (mC (.int 0))) (mC (.str "letter")))) (oSet 6 (m2 ixD (mVar 5) (mC (.int 1)))) (oSeq (oAsg (mVar 5) (gT' 4 (gsC (gN 7) (gsC (gN 8) (gsC (gN 9) (gsC (gN 10) gsN)))))) (oSeq (oIf (bOr (mB (m2 notInKD (mVar 8) (mVar 3))) (bOr (mB (m2 ltI (mVar 10) (mC (.int 1)))) (bOr (mB (m2 ltI (mVar 9) (mC (.int 0)))) (mB (m2 gtI (m2 addD (mVar 9) (mVar 10)) (mCB lenD (aCons (m2 dixD (mVar 3) (mVar 8)) aNil))))))) (oRet (mC (.bool false))) oSkip) (oSeq (oSet 6 (m3 slD (m2 dixD (mVar 3) (mVar 8)) (mPart (mVar 9)) (mPart (m2 addD (mVar 9) (mVar 10))))) oSkip)))) (oSeq (oIf (mB (m2 neD (m3 slD (mVar 1) (mPart (mVar 4)) (mPart (m2 addD (mVar 4) (mCB lenD (aCons (mVar 6) aNil))))) (mVar 6))) (oRet (mC (.bool false))) oSkip) (oSeq (oAug 4 augAdd (mCB lenD (aCons (mVar 6) aNil))) oSkip)))) (oRet (m2 eqD (mVar 4) (mCB lenD (aCons (mVar 1) aNil)))))))
def m_are_pieces_of : List D → Res D := runD .pl 11 o_are_pieces_of
def n_check_word : List Str := ["house", "word", "pieces", "windows", "start", "stop"]
def p_check_word : List Str := ["house", "word", "pieces", "windows"]
abbrev s_check_word : Stmt := top 12
theorem sc_check_word : FnScope n_check_word p_check_word (defScope s_check_word) := ⟨rfl, rfl, rfl, by decide +kernel, rfl, by decide +kernel, by decide +kernel⟩
def o_check_word : Env' → Out := (oSeq (oIf (bOr (bNot (mB (mCall m_are_pieces_of (aCons (mVar 0) (aCons (mVar 1) (aCons (mVar 2) aNil)))))) (bNot (mB (mCall m_are_apart (aCons (mLc (iSeq (mVar 3)) (gT' 2 (gsC (gN 4) (gsC (gN 5) gsN))) bYes (mTup (aCons (mC (.int 0)) (aCons (mVar 4) (aCons (mVar 5) aNil)))) [4, 5]) aNil))))) (oRet (mC (.bool false))) oSkip) (oSeq (oFor (iSeq (mVar 3)) (gT' 2 (gsC (gN 4) (gsC (gN 5) gsN))) (oSeq (oIf (bOr (bNot (mB (mChain3 leI ltI ltI (mC (.int 0)) (mVar 4) (mVar 5) (mCB lenD (aCons (mVar 1) aNil))))) (mB (m2 neD (mCall m_places (aCons (mVar 0) (aCons (m3 slD (mVar 1) (mPart (mVar 4)) (mPart (m2 addD (mVar 5) (mC (.int 1))))) aNil))) (mList aNil)))) (oRet (mC (.bool false))) oSkip) oSkip)) (oRet (m2 eqD (mCB lenD (aCons (mVar 2) aNil)) (m2 addD (mCB lenD (aCons (mVar 3) aNil)) (mCB intD (aCons (m2 neD (mVar 1) (mC (.str ""))) aNil)))))))
def m_check_word : List D → Res D := runD .pl 6 o_check_word
def n__law_numbers : List Str := ["script", "count", "rest", "mixed", "numbers", "k", "at", "cell"]
def p__law_numbers : List Str := ["script", "count"]
abbrev s__law_numbers : Stmt := top 14
theorem sc__law_numbers : FnScope n__law_numbers p__law_numbers (defScope s__law_numbers) := ⟨rfl, rfl, rfl, by decide +kernel, rfl, by decide +kernel, by decide +kernel⟩
def o__law_numbers : Env' → Out := (oSeq (oSet 2 (m2 catD (mLc (iSeq (m3 slD (mVar 0) mNoPart (mPart (mC (.int 63))))) (gN 7) bYes (mCB absD (aCons (mVar 7) aNil)) [7]) (mList (aCons (mC (.int 0)) aNil)))) (oSeq (oIf (mB (m2 gtI (mCB lenD (aCons (mVar 0) aNil)) (mC (.int 0)))) (oSet 2 (m3 slLD (mVar 2) mNoPart (mPart (m1 negD (mC (.int 1)))))) oSkip) (oSeq (oSet 3 (mLc (iOwn (mVar 2)) (gN 7) bYes (m2 modD (mCB intD (aCons (m2 addD (m2 mulG (mVar 7) (mC (.int 48271))) (mC (.int 11))) aNil)) (mC (.int 2147483647))) [7])) (oSeq (oSet 4 (mList aNil)) (oSeq (oFor (iRange (aCons (mVar 1) aNil)) (gN 5) (oSeq (oSet 6 (m2 modD (mCB intD (aCons (mVar 5) aNil)) (mCB lenD (aCons (mVar 2) aNil)))) (oSeq (oIf (mB (m2 geI (m2 ixD (mVar 2) (mVar 6)) (m2 powD (mC (.int 10)) (mC (.int 18))))) (oSeq (oLM 4 lApp (aCons (m2 modD (mCB intD (aCons (m2 ixD (mVar 2) (mVar 6)) aNil)) (mC (.int 65536))) aNil)) (oPut 2 (mVar 6) (m2 fdivD (m2 ixD (mVar 2) (mVar 6)) (mC (.int 65536))))) (oSeq (oPut 3 (mVar 6) (m2 modD (mCB intD (aCons (m2 addD (m2 addD (m2 mulG (m2 ixD (mVar 3) (mVar 6)) (mC (.int 16807))) (mC (.int 12345))) (m2 mulG (mC (.int 7919)) (mVar 5))) aNil)) (mC (.int 2147483647)))) (oLM 4 lApp (aCons (m2 modD (mCB intD (aCons (m2 addD (m2 ixD (mVar 2) (mVar 6)) (m2 fdivD (m2 ixD (mVar 3) (mVar 6)) (mC (.int 5)))) aNil)) (mC (.int 65536))) aNil)))) oSkip))) (oRet (mVar 4)))))))
def m__law_numbers : List D → Res D := runD .fr 8 o__law_numbers
def n__law_drawn : List Str := ["numbers", "at"]
def p__law_drawn : List Str := ["numbers", "at"]
abbrev s__law_drawn : Stmt := top 15
theorem sc__law_drawn : FnScope n__law_drawn p__law_drawn (defScope s__law_drawn) := ⟨rfl, rfl, rfl, by decide +kernel, rfl, by decide +kernel, by decide +kernel⟩
def o__law_drawn : Env' → Out := (oRet (m2 ixD (mVar 0) (m2 modD (mCB intD (aCons (mVar 1) aNil)) (mCB lenD (aCons (mVar 0) aNil)))))
def m__law_drawn : List D → Res D := runD .pl 2 o__law_drawn
def n__law_signs : List Str := ["at", "many", "signs"]
def p__law_signs : List Str := ["at", "many"]
abbrev s__law_signs : Stmt := top 16
theorem sc__law_signs : FnScope n__law_signs p__law_signs (defScope s__law_signs) := ⟨rfl, rfl, rfl, by decide +kernel, rfl, by decide +kernel, by decide +kernel⟩
def o__law_signs : Env' → Out := (oSeq (oSet 2 (mC (.str " !\"#$&'()*+,-./0123456789:;<=>?@ABCDEFGHIJKLMNOPQRSTUVWXYZ[\\]^_`abcdefghijklmnopqrstuvwxyz{|}~"))) (oRet (m3 slD (m3 slD (mVar 2) (mPart (m2 modD (mCB intD (aCons (mVar 0) aNil)) (m2 subD (mC (.int 95)) (mVar 1)))) mNoPart) mNoPart (mPart (mVar 1)))))
def m__law_signs : List D → Res D := runD .pl 3 o__law_signs
def n__law_text : List Str := ["numbers", "at", "most", "drawn", "letters", "size", "word", "unit", "j"]
def p__law_text : List Str := ["numbers", "at", "most"]
abbrev s__law_text : Stmt := top 17
theorem sc__law_text : FnScope n__law_text p__law_text (defScope s__law_text) := ⟨rfl, rfl, rfl, by decide +kernel, rfl, by decide +kernel, by decide +kernel⟩
def o__law_text : Env' → Out := (oSeq (oSet 3 (mCall m__law_drawn (aCons (mVar 0) (aCons (mVar 1) aNil)))) (oSeq (oSet 4 (m2 ixD (mList (aCons (mC (.str "ab")) (aCons (mC (.str "abc")) (aCons (mC (.str "a")) (aCons (mC (.str "aab")) (aCons (mC (.str "xy z")) (aCons (mC (.str "ba~!")) (aCons (mC (.str "abcdefgh")) (aCons (mCall m__law_signs (aCons (m2 fdivD (mVar 3) (mC (.int 8))) (aCons (mC (.int 4)) aNil))) aNil))))))))) (m2 modD (mCB intD (aCons (mVar 3) aNil)) (mC (.int 8))))) (oSeq (oSet 5 (m2 modD (mCB intD (aCons (m2 fdivD (mVar 3) (mC (.int 8))) aNil)) (m2 addD (mVar 2) (mC (.int 1))))) (oSeq (oSet 6 (m2 modD (mCB intD (aCons (m2 fdivD (mVar 3) (mC (.int 400))) aNil)) (mC (.int 4)))) (oSeq (oIf (mB (m2 eqD (mVar 6) (mC (.int 1)))) (oSeq (oSet 7 (mM1 isStrD joinD (mC (.str "")) (aCons (mLc (iRange (aCons (m2 addD (mC (.int 1)) (m2 modD (mCB intD (aCons (m2 fdivD (mVar 3) (mC (.int 1600))) aNil)) (mC (.int 5)))) aNil)) (gN 8) bYes (m2 ixD (mVar 4) (m2 modD (mCB intD (aCons (mCall m__law_drawn (aCons (mVar 0) (aCons (m2 addD (m2 addD (mVar 1) (mC (.int 1))) (mVar 8)) aNil))) aNil)) (mCB lenD (aCons (mVar 4) aNil)))) [8]) aNil))) (oRet (m3 slD (m2 mulG (mVar 7) (m2 addD (mVar 2) (mC (.int 1)))) mNoPart (mPart (mVar 5))))) oSkip) (oRet (mM1 isStrD joinD (mC (.str "")) (aCons (mLc (iRange (aCons (mVar 5) aNil)) (gN 8) bYes (m2 ixD (mVar 4) (m2 modD (mCB intD (aCons (mCall m__law_drawn (aCons (mVar 0) (aCons (m2 addD (m2 addD (mVar 1) (mC (.int 1))) (mVar 8)) aNil))) aNil)) (mCB lenD (aCons (mVar 4) aNil)))) [8]) aNil))))))))
def m__law_text : List D → Res D := runD .pl 9 o__law_text
def n__law_house : List Str := ["numbers", "at", "texts", "most", "house", "number", "k", "text"]
def p__law_house : List Str := ["numbers", "at", "texts", "most"]
abbrev s__law_house : Stmt := top 18
theorem sc__law_house : FnScope n__law_house p__law_house (defScope s__law_house) := ⟨rfl, rfl, rfl, by decide +kernel, rfl, by decide +kernel, by decide +kernel⟩
def o__law_house : Env' → Out := (oSeq (oSet 4 (mList aNil)) (oSeq (oSet 5 (m1 negD (mC (.int 1)))) (oSeq (oFor (iRange (aCons (m2 modD (mCB intD (aCons (mCall m__law_drawn (aCons (mVar 0) (aCons (mVar 1) aNil))) aNil)) (m2 addD (mVar 2) (mC (.int 1)))) aNil)) (gN 6) (oSeq (oSet 5 (m2 addD (m2 addD (mVar 5) (mC (.int 1))) (m2 modD (mCB intD (aCons (mCall m__law_drawn (aCons (mVar 0) (aCons (m2 addD (m2 addD (mVar 1) (mC (.int 1))) (mVar 6)) aNil))) aNil)) (mC (.int 12))))) (oSeq (oSet 7 (mCall m__law_text (aCons (mVar 0) (aCons (m2 addD (m2 addD (mVar 1) (mC (.int 10))) (m2 mulG (mC (.int 43)) (mVar 6))) (aCons (mVar 3) aNil))))) (oSeq (oIf (bAnd (mB (m2 gtI (mVar 6) (mC (.int 0)))) (mB (m2 eqD (m2 modD (mCB intD (aCons (mCall m__law_drawn (aCons (mVar 0) (aCons (m2 addD (m2 addD (mVar 1) (mC (.int 400))) (mVar 6)) aNil))) aNil)) (mC (.int 4))) (mC (.int 1))))) (oSet 7 (m3 slD (m2 addD (m2 ixD (m2 ixD (mVar 4) (m2 subD (mVar 6) (mC (.int 1)))) (mC (.int 1))) (mVar 7)) mNoPart (mPart (mVar 3)))) oSkip) (oSeq (oLM 4 lApp (aCons (mTup (aCons (mVar 5) (aCons (mVar 7) aNil))) aNil)) oSkip))))) (oRet (mVar 4)))))
def m__law_house : List D → Res D := runD .fr 8 o__law_house
def n__law_word : List Str := ["numbers", "at", "house", "most", "drawn", "word", "texts", "text", "start", "j", "number"]
def p__law_word : List Str := ["numbers", "at", "house", "most"]
abbrev s__law_word : Stmt := top 19
theorem sc__law_word : FnScope n__law_word p__law_word (defScope s__law_word) := ⟨rfl, rfl, rfl, by decide +kernel, rfl, by decide +kernel, by decide +kernel⟩
def o__law_word : Env' → Out := (oSeq (oSet 4 (mCall m__law_drawn (aCons (mVar 0) (aCons (mVar 1) aNil)))) (oSeq (oSet 5 (mM1 isStrD joinD (mC (.str "")) (aCons (mLc (iRange (aCons (m2 modD (mCB intD (aCons (m2 fdivD (mVar 4) (mC (.int 9))) aNil)) (mC (.int 5))) aNil)) (gN 9) bYes (m2 ixD (mC (.str "abx cz")) (m2 modD (mCB intD (aCons (mCall m__law_drawn (aCons (mVar 0) (aCons (m2 addD (m2 addD (mVar 1) (mC (.int 1))) (mVar 9)) aNil))) aNil)) (mC (.int 6)))) [9]) aNil))) (oSeq (oSet 6 (mLc (iSeq (mVar 2)) (gT' 2 (gsC (gN 10) (gsC (gN 7) gsN))) (mB (m2 neD (mVar 7) (mC (.str "")))) (mVar 7) [10, 7])) (oSeq (oIf (bAnd (mB (m2 neD (mVar 6) (mList aNil))) (mB (m2 gtI (m2 modD (mCB intD (aCons (mVar 4) aNil)) (mC (.int 3))) (mC (.int 0))))) (oSeq (oSet 7 (m2 ixD (mVar 6) (m2 modD (mCB intD (aCons (mCall m__law_drawn (aCons (mVar 0) (aCons (m2 addD (mVar 1) (mC (.int 7))) aNil))) aNil)) (mCB lenD (aCons (mVar 6) aNil))))) (oSeq (oSet 8 (m2 modD (mCB intD (aCons (mCall m__law_drawn (aCons (mVar 0) (aCons (m2 addD (mVar 1) (mC (.int 8))) aNil))) aNil)) (mCB lenD (aCons (mVar 7) aNil)))) (oSeq (oSet 5 (m3 slD (mVar 7) (mPart (mVar 8)) (mPart (m2 addD (m2 addD (mVar 8) (mC (.int 1))) (m2 modD (mCB intD (aCons (mCall m__law_drawn (aCons (mVar 0) (aCons (m2 addD (mVar 1) (mC (.int 9))) aNil))) aNil)) (mVar 3)))))) (oSeq (oIf (mB (m2 eqD (m2 modD (mCB intD (aCons (mVar 4) aNil)) (mC (.int 3))) (mC (.int 2)))) (oSet 5 (m2 addD (mVar 5) (m2 ixD (mList (aCons (mC (.str "a")) (aCons (mC (.str "b")) (aCons (mC (.str "?")) (aCons (mVar 5) aNil))))) (m2 modD (mCB intD (aCons (m2 fdivD (mVar 4) (mC (.int 27))) aNil)) (mC (.int 4)))))) oSkip) oSkip)))) oSkip) (oRet (m3 slD (mVar 5) mNoPart (mPart (mC (.int 60)))))))))
def m__law_word : List D → Res D := runD .pl 11 o__law_word
def n__law_alike : List Str := ["one", "i", "two", "j", "size"]
def p__law_alike : List Str := ["one", "i", "two", "j"]
abbrev s__law_alike : Stmt := top 20
theorem sc__law_alike : FnScope n__law_alike p__law_alike (defScope s__law_alike) := ⟨rfl, rfl, rfl, by decide +kernel, rfl, by decide +kernel, by decide +kernel⟩
def o__law_alike : Env' → Out := (oSeq (oSet 4 (mC (.int 0))) (oSeq (wloop (bAnd (mB (m2 ltI (m2 addD (mVar 1) (mVar 4)) (mCB lenD (aCons (mVar 0) aNil)))) (bAnd (mB (m2 ltI (m2 addD (mVar 3) (mVar 4)) (mCB lenD (aCons (mVar 2) aNil)))) (mB (m2 eqD (m2 ixD (mVar 0) (m2 addD (mVar 1) (mVar 4))) (m2 ixD (mVar 2) (m2 addD (mVar 3) (mVar 4))))))) (oSet 4 (m2 addD (mVar 4) (mC (.int 1)))) wfuel) (oRet (mVar 4))))
def m__law_alike : List D → Res D := runD .pl 5 o__law_alike
def n__law_is_stretch : List Str := ["house", "word", "number", "text"]
def p__law_is_stretch : List Str := ["house", "word"]
abbrev s__law_is_stretch : Stmt := top 21
theorem sc__law_is_stretch : FnScope n__law_is_stretch p__law_is_stretch (defScope s__law_is_stretch) := ⟨rfl, rfl, rfl, by decide +kernel, rfl, by decide +kernel, by decide +kernel⟩
def o__law_is_stretch : Env' → Out := (oSeq (oFor (iSeq (mVar 0)) (gT' 2 (gsC (gN 2) (gsC (gN 3) gsN))) (oSeq (oIf (mB (m2 inD (mVar 1) (mVar 3))) (oRet (mC (.bool true))) oSkip) oSkip)) (oRet (mC (.bool false))))
def m__law_is_stretch : List D → Res D := runD .pl 4 o__law_is_stretch
def n__law_pieces : List Str := ["house", "word", "pieces", "start", "best", "number", "text", "k"]
def p__law_pieces : List Str := ["house", "word"]
abbrev s__law_pieces : Stmt := top 22
theorem sc__law_pieces : FnScope n__law_pieces p__law_pieces (defScope s__law_pieces) := ⟨rfl, rfl, rfl, by decide +kernel, rfl, by decide +kernel, by decide +kernel⟩
def o__law_pieces : Env' → Out := (oSeq (oSet 2 (mList aNil)) (oSeq (oSet 3 (mC (.int 0))) (oSeq (wloop (mB (m2 ltI (mVar 3) (mCB lenD (aCons (mVar 1) aNil)))) (oSeq (oSet 4 (mTup (aCons (mC (.int 0)) (aCons (mC (.int 0)) (aCons (mC (.int 0)) aNil))))) (oSeq (oFor (iSeq (mVar 0)) (gT' 2 (gsC (gN 5) (gsC (gN 6) gsN))) (oSeq (oFor (iRange (aCons (mCB lenD (aCons (mVar 6) aNil)) aNil)) (gN 7) (oSeq (oIf (mB (m2 gtI (mCall m__law_alike (aCons (mVar 1) (aCons (mVar 3) (aCons (mVar 6) (aCons (mVar 7) aNil))))) (m2 ixD (mVar 4) (mC (.int 0))))) (oSet 4 (mTup (aCons (mCall m__law_alike (aCons (mVar 1) (aCons (mVar 3) (aCons (mVar 6) (aCons (mVar 7) aNil))))) (aCons (mVar 5) (aCons (mVar 7) aNil))))) oSkip) oSkip)) oSkip)) (oSeq (oLM 2 lApp (aCons (m2 ixD (mList (aCons (mTup (aCons (mC (.str "letter")) (aCons (m2 ixD (mVar 1) (mVar 3)) aNil))) (aCons (mTup (aCons (mC (.str "copy")) (aCons (m2 ixD (mVar 4) (mC (.int 1))) (aCons (m2 ixD (mVar 4) (mC (.int 2))) (aCons (m2 ixD (mVar 4) (mC (.int 0))) aNil))))) aNil))) (mCB intD (aCons (m2 gtI (m2 ixD (mVar 4) (mC (.int 0))) (mC (.int 0))) aNil))) aNil)) (oSeq (oSet 3 (m2 addD (mVar 3) (mCB maxD (aCons (mC (.int 1)) (aCons (m2 ixD (mVar 4) (mC (.int 0))) aNil))))) oSkip)))) wfuel) (oRet (mVar 2)))))
def m__law_pieces : List D → Res D := runD .fr 8 o__law_pieces
def n__law_least : List Str := ["house", "word", "best", "stop", "ways", "start"]
def p__law_least : List Str := ["house", "word"]
abbrev s__law_least : Stmt := top 23
theorem sc__law_least : FnScope n__law_least p__law_least (defScope s__law_least) := ⟨rfl, rfl, rfl, by decide +kernel, rfl, by decide +kernel, by decide +kernel⟩
def o__law_least : Env' → Out := (oSeq (oSet 2 (mList (aCons (mC (.int 0)) aNil))) (oSeq (oFor (iRangeG (aCons (mC (.int 1)) (aCons (m2 addD (mCB lenD (aCons (mVar 1) aNil)) (mC (.int 1))) aNil))) (gN 3) (oSeq (oSet 4 (m2 addD (mList (aCons (m2 addD (m2 ixD (mVar 2) (m2 subD (mVar 3) (mC (.int 1)))) (mC (.int 1))) aNil)) (mLc (iRange (aCons (mVar 3) aNil)) (gN 5) (mB (mCall m__law_is_stretch (aCons (mVar 0) (aCons (m3 slD (mVar 1) (mPart (mVar 5)) (mPart (mVar 3))) aNil)))) (m2 addD (m2 ixD (mVar 2) (mVar 5)) (mC (.int 1))) [5]))) (oSeq (oLM 2 lApp (aCons (mCB minLD (aCons (mVar 4) aNil)) aNil)) oSkip))) (oRet (m2 ixD (mVar 2) (mCB lenD (aCons (mVar 1) aNil))))))
def m__law_least : List D → Res D := runD .pl 6 o__law_least
def n__law_due : List Str := ["house", "word", "pieces", "some", "made", "piece", "k", "text", "start", "stop", "number", "size", "other"]
def p__law_due : List Str := ["house", "word", "pieces", "some"]
abbrev s__law_due : Stmt := top 24
theorem sc__law_due : FnScope n__law_due p__law_due (defScope s__law_due) := ⟨rfl, rfl, rfl, by decide +kernel, rfl, by decide +kernel, by decide +kernel⟩
def o__law_due : Env' → Out := (oSeq (oSet 4 (mC (.str ""))) (oSeq (oFor (iSeq (mVar 2)) (gN 5) (oSeq (oIf (mB (m2 eqD (m2 ixD (mVar 5) (mC (.int 0))) (mC (.str "letter")))) (oSet 4 (m2 addD (mVar 4) (m2 ixD (mVar 5) (mC (.int 1))))) (oSeq (oAsg (m3 slD (mVar 5) (mPart (mC (.int 1))) mNoPart) (gT' 3 (gsC (gN 10) (gsC (gN 6) (gsC (gN 11) gsN))))) (oSeq (oSet 7 (mLc (iSeq (mVar 0)) (gT' 2 (gsC (gN 12) (gsC (gN 7) gsN))) (mB (m2 eqD (mVar 12) (mVar 10))) (mVar 7) [12, 7])) (oSeq (oIf (bOr (mB (m2 eqD (mVar 7) (mList aNil))) (bOr (mB (m2 ltI (mVar 11) (mC (.int 1)))) (bOr (mB (m2 ltI (mVar 6) (mC (.int 0)))) (mB (m2 gtI (m2 addD (mVar 6) (mVar 11)) (mCB lenD (aCons (m2 ixD (mVar 7) (mC (.int 0))) aNil))))))) (oRet (mC (.bool false))) oSkip) (oSeq (oSet 4 (m2 addD (mVar 4) (m3 slD (m2 ixD (mVar 7) (mC (.int 0))) (mPart (mVar 6)) (mPart (m2 addD (mVar 6) (mVar 11)))))) oSkip))))) oSkip)) (oSeq (oIf (mB (m2 neD (mVar 4) (mVar 1))) (oRet (mC (.bool false))) oSkip) (oSeq (oFor (iRange (aCons (mCB lenD (aCons (mVar 3) aNil)) aNil)) (gN 6) (oSeq (oAsg (m2 ixD (mVar 3) (mVar 6)) (gT' 2 (gsC (gN 8) (gsC (gN 9) gsN)))) (oSeq (oIf (bOr (bNot (mB (mChain3 leI ltI ltI (mC (.int 0)) (mVar 8) (mVar 9) (mCB lenD (aCons (mVar 1) aNil))))) (mB (mCall m__law_is_stretch (aCons (mVar 0) (aCons (m3 slD (mVar 1) (mPart (mVar 8)) (mPart (m2 addD (mVar 9) (mC (.int 1))))) aNil))))) (oRet (mC (.bool false))) oSkip) (oSeq (oIf (bAnd (mB (m2 gtI (mVar 6) (mC (.int 0)))) (bOr (mB (m2 geDD (m2 ixD (mVar 3) (m2 subD (mVar 6) (mC (.int 1)))) (m2 ixD (mVar 3) (mVar 6)))) (mB (m2 ltI (mVar 8) (m2 ixD (m2 ixD (mVar 3) (m2 subD (mVar 6) (mC (.int 1)))) (mC (.int 1))))))) (oRet (mC (.bool false))) oSkip) oSkip)))) (oRet (m2 eqD (mCB lenD (aCons (mVar 2) aNil)) (m2 addD (mCB lenD (aCons (mVar 3) aNil)) (mCB intD (aCons (m2 neD (mVar 1) (mC (.str ""))) aNil)))))))))
def m__law_due : List D → Res D := runD .pl 13 o__law_due
def n__law_changed : List Str := ["numbers", "at", "pieces", "some", "drawn", "more", "word", "k", "other", "number", "start", "size", "stop"]
def p__law_changed : List Str := ["numbers", "at", "pieces", "some"]
abbrev s__law_changed : Stmt := top 25
theorem sc__law_changed : FnScope n__law_changed p__law_changed (defScope s__law_changed) := ⟨rfl, rfl, rfl, by decide +kernel, rfl, by decide +kernel, by decide +kernel⟩
def o__law_changed : Env' → Out := (oSeq (oSet 4 (mCall m__law_drawn (aCons (mVar 0) (aCons (mVar 1) aNil)))) (oSeq (oSet 5 (mCall m__law_drawn (aCons (mVar 0) (aCons (m2 addD (mVar 1) (mC (.int 1))) aNil)))) (oSeq (oSet 6 (m2 modD (mCB intD (aCons (mVar 4) aNil)) (mC (.int 8)))) (oSeq (oIf (bAnd (mB (m2 ltI (mVar 6) (mC (.int 4)))) (mB (m2 neD (mVar 3) (mList aNil)))) (oSeq (oSet 7 (m2 modD (mCB intD (aCons (mVar 5) aNil)) (mCB lenD (aCons (mVar 3) aNil)))) (oSeq (oAsg (m2 ixD (mVar 3) (mVar 7)) (gT' 2 (gsC (gN 10) (gsC (gN 12) gsN)))) (oSeq (oSet 8 (mList (aCons (m2 addD (m3 slD (mVar 3) mNoPart (mPart (mVar 7))) (m3 slD (mVar 3) (mPart (m2 addD (mVar 7) (mC (.int 1)))) mNoPart)) (aCons (m2 addD (m2 addD (m3 slD (mVar 3) mNoPart (mPart (mVar 7))) (mList (aCons (m2 ixD (mVar 3) (mVar 7)) aNil))) (m3 slD (mVar 3) (mPart (mVar 7)) mNoPart)) (aCons (m2 addD (m2 addD (m3 slD (mVar 3) mNoPart (mPart (mVar 7))) (mList (aCons (mTup (aCons (m2 addD (mVar 10) (mC (.int 1))) (aCons (mVar 12) aNil))) aNil))) (m3 slD (mVar 3) (mPart (m2 addD (mVar 7) (mC (.int 1)))) mNoPart)) aNil))))) (oRet (mTup (aCons (mVar 2) (aCons (m2 ixD (m2 addD (mVar 8) (mList (aCons (m2 addD (m2 addD (m3 slD (mVar 3) mNoPart (mPart (mVar 7))) (mList (aCons (mTup (aCons (mVar 10) (aCons (m2 subD (mVar 12) (mC (.int 1))) aNil))) aNil))) (m3 slD (mVar 3) (mPart (m2 addD (mVar 7) (mC (.int 1)))) mNoPart)) aNil))) (mVar 6)) aNil))))))) oSkip) (oSeq (oIf (bOr (mB (m2 eqD (mVar 2) (mList aNil))) (mB (m2 ltI (mVar 6) (mC (.int 5))))) (oRet (mTup (aCons (m2 addD (mVar 2) (mList (aCons (mTup (aCons (mC (.str "letter")) (aCons (mC (.str "a")) aNil))) aNil))) (aCons (mVar 3) aNil)))) oSkip) (oSeq (oSet 7 (m2 modD (mCB intD (aCons (mVar 5) aNil)) (mCB lenD (aCons (mVar 2) aNil)))) (oSeq (oIf (mB (m2 eqD (mVar 6) (mC (.int 5)))) (oRet (mTup (aCons (m2 addD (m3 slD (mVar 2) mNoPart (mPart (mVar 7))) (m3 slD (mVar 2) (mPart (m2 addD (mVar 7) (mC (.int 1)))) mNoPart)) (aCons (mVar 3) aNil)))) oSkip) (oSeq (oIf (mB (m2 eqD (m2 ixD (m2 ixD (mVar 2) (mVar 7)) (mC (.int 0))) (mC (.str "letter")))) (oRet (mTup (aCons (m2 addD (m2 addD (m3 slD (mVar 2) mNoPart (mPart (mVar 7))) (mList (aCons (mTup (aCons (mC (.str "letter")) (aCons (m2 ixD (mC (.str "ab")) (m2 modD (mCB intD (aCons (m2 fdivD (mVar 5) (mC (.int 60))) aNil)) (mC (.int 2)))) aNil))) aNil))) (m3 slD (mVar 2) (mPart (m2 addD (mVar 7) (mC (.int 1)))) mNoPart)) (aCons (mVar 3) aNil)))) oSkip) (oSeq (oAsg (m3 slD (m2 ixD (mVar 2) (mVar 7)) (mPart (mC (.int 1))) mNoPart) (gT' 3 (gsC (gN 9) (gsC (gN 10) (gsC (gN 11) gsN))))) (oSeq (oSet 8 (mTup (aCons (mC (.str "copy")) (aCons (m2 addD (mVar 9) (m2 modD (mCB intD (aCons (m2 fdivD (mVar 5) (mC (.int 60))) aNil)) (mC (.int 2)))) (aCons (m2 addD (mVar 10) (m2 modD (mCB intD (aCons (m2 fdivD (mVar 5) (mC (.int 120))) aNil)) (mC (.int 2)))) (aCons (m2 subD (mVar 11) (m2 modD (mCB intD (aCons (m2 fdivD (mVar 5) (mC (.int 240))) aNil)) (mC (.int 2)))) aNil)))))) (oRet (mTup (aCons (m2 addD (m2 addD (m3 slD (mVar 2) mNoPart (mPart (mVar 7))) (mList (aCons (mVar 8) aNil))) (m3 slD (mVar 2) (mPart (m2 addD (mVar 7) (mC (.int 1)))) mNoPart)) (aCons (mVar 3) aNil))))))))))))))
def m__law_changed : List D → Res D := runD .pl 13 o__law_changed
def n_law : List Str := ["script", "numbers", "shape", "house", "kept", "turn", "word", "part", "due", "told", "some", "tries", "step", "pieces", "other", "before", "answer"]
def p_law : List Str := ["script"]
abbrev s_law : Stmt := top 26
theorem sc_law : FnScope n_law p_law (defScope s_law) := ⟨rfl, rfl, rfl, by decide +kernel, rfl, by decide +kernel, by decide +kernel⟩
def o_law : Env' → Out := (oSeq (oSet 1 (mCall m__law_numbers (aCons (mVar 0) (aCons (mC (.int 800)) aNil)))) (oSeq (oSet 2 (m2 modD (mCB intD (aCons (m2 ixD (mVar 1) (mC (.int 7))) aNil)) (mC (.int 6)))) (oSeq (oSet 3 (mCall m__law_house (aCons (mVar 1) (aCons (mC (.int 10)) (aCons (m2 ixD (mList (aCons (mC (.int 4)) (aCons (mC (.int 4)) (aCons (mC (.int 4)) (aCons (mC (.int 4)) (aCons (mC (.int 8)) (aCons (mC (.int 1)) aNil))))))) (mVar 2)) (aCons (m2 ixD (mList (aCons (mC (.int 12)) (aCons (mC (.int 12)) (aCons (mC (.int 12)) (aCons (mC (.int 12)) (aCons (mC (.int 5)) (aCons (mC (.int 40)) aNil))))))) (mVar 2)) aNil)))))) (oSeq (oSet 4 (mCB reprD (aCons (mVar 3) aNil))) (oSeq (oFor (iRange (aCons (mC (.int 3)) aNil)) (gN 5) (oSeq (oSet 6 (mC (.str ""))) (oSeq (oFor (iRange (aCons (m2 modD (mCB intD (aCons (mCall m__law_drawn (aCons (mVar 1) (aCons (m2 addD (mC (.int 450)) (mVar 5)) aNil))) aNil)) (mC (.int 6))) aNil)) (gN 7) (oSeq (oSet 6 (m2 addD (mVar 6) (mCall m__law_word (aCons (mVar 1) (aCons (m2 addD (m2 addD (mC (.int 460)) (m2 mulG (mC (.int 80)) (mVar 5))) (m2 mulG (mC (.int 12)) (mVar 7))) (aCons (mVar 3) (aCons (m2 ixD (mList (aCons (mC (.int 9)) (aCons (mC (.int 30)) aNil))) (mCB intD (aCons (m2 eqD (mVar 2) (mC (.int 5))) aNil))) aNil))))))) oSkip)) (oSeq (oSet 6 (m3 slD (mVar 6) mNoPart (mPart (mC (.int 60))))) (oSeq (oSet 8 (mCall m__law_pieces (aCons (mVar 3) (aCons (mVar 6) aNil)))) (oSeq (oSet 9 (mCall m_cut_word (aCons (mVar 3) (aCons (mVar 6) aNil)))) (oSeq (oSet 10 (mCall m_word_windows (aCons (mVar 3) (aCons (mVar 6) aNil)))) (oSeq (oIf (bOr (bNot (mB (mIsi "list" (mVar 9)))) (bOr (mB (m2 neD (mCB reprD (aCons (mVar 9) aNil)) (mCB reprD (aCons (mVar 8) aNil)))) (bOr (mB (m2 neD (mCB reprD (aCons (mVar 3) aNil)) (mVar 4))) (mB (m2 neD (mCB lenD (aCons (mVar 8) aNil)) (mCall m__law_least (aCons (mVar 3) (aCons (mVar 6) aNil)))))))) (oRet (mC (.bool false))) oSkip) (oSeq (oIf (bOr (bNot (mB (mIsi "list" (mVar 10)))) (bNot (mB (mCall m__law_due (aCons (mVar 3) (aCons (mVar 6) (aCons (mVar 8) (aCons (mVar 10) aNil)))))))) (oRet (mC (.bool false))) oSkip) (oSeq (oLM 9 lApp (aCons (mC (.int 0)) aNil)) (oSeq (oSet 11 (mList (aCons (mTup (aCons (mVar 8) (aCons (mVar 10) aNil))) (aCons (mTup (aCons (mVar 8) (aCons (mList aNil) aNil))) aNil)))) (oSeq (oFor (iRange (aCons (mC (.int 8)) aNil)) (gN 12) (oSeq (oAsg (m2 ixD (mList (aCons (m2 ixD (mVar 11) (mC (.int 0))) (aCons (m2 ixD (mVar 11) (m1 negD (mC (.int 1)))) aNil))) (m2 modD (mCB intD (aCons (mVar 12) aNil)) (mC (.int 2)))) (gT' 2 (gsC (gN 13) (gsC (gN 14) gsN)))) (oSeq (oLM 11 lApp (aCons (mCall m__law_changed (aCons (mVar 1) (aCons (m2 addD (m2 addD (mC (.int 700)) (m2 mulG (mC (.int 2)) (mVar 12))) (m2 mulG (mC (.int 20)) (mVar 5))) (aCons (mVar 13) (aCons (mVar 14) aNil))))) aNil)) oSkip))) (oSeq (oFor (iSeq (mVar 11)) (gT' 2 (gsC (gN 13) (gsC (gN 14) gsN))) (oSeq (oSet 15 (mCB reprD (aCons (mTup (aCons (mVar 13) (aCons (mVar 14) aNil))) aNil))) (oSeq (oSet 16 (mCall m_check_word (aCons (mVar 3) (aCons (mVar 6) (aCons (mVar 13) (aCons (mVar 14) aNil)))))) (oSeq (oIf (bOr (mB (m2 neD (mCB reprD (aCons (mVar 16) aNil)) (mCB reprD (aCons (mCall m__law_due (aCons (mVar 3) (aCons (mVar 6) (aCons (mVar 13) (aCons (mVar 14) aNil))))) aNil)))) (mB (m2 neD (mCB reprD (aCons (mTup (aCons (mVar 13) (aCons (mVar 14) aNil))) aNil)) (mVar 15)))) (oRet (mC (.bool false))) oSkip) oSkip)))) (oSeq (oIf (mB (m2 neD (mCB reprD (aCons (mCall m_cut_word (aCons (mVar 3) (aCons (mVar 6) aNil))) aNil)) (mCB reprD (aCons (mVar 8) aNil)))) (oRet (mC (.bool false))) oSkip) oSkip)))))))))))))) (oRet (m2 eqD (mCB reprD (aCons (mVar 3) aNil)) (mVar 4))))))))
def m_law : List D → Res D := runD .pl 17 o_law
/-- what the top has written -/
structure Txt (K : PySem.W.Frag) (mg : Str → Option Value) where
  f_alike : Addr
  fd_alike : FuncData
  f_size_of : Addr
  fd_size_of : FuncData
  f_longest_stretch : Addr
  fd_longest_stretch : FuncData
  f_cut_word : Addr
  fd_cut_word : FuncData
  f_places : Addr
  fd_places : FuncData
  f_told_windows : Addr
  fd_told_windows : FuncData
  f_are_apart : Addr
  fd_are_apart : FuncData
  f_word_windows : Addr
  fd_word_windows : FuncData
  f_are_pieces_of : Addr
  fd_are_pieces_of : FuncData
  f_check_word : Addr
  fd_check_word : FuncData
  f__law_numbers : Addr
  fd__law_numbers : FuncData
  f__law_drawn : Addr
  fd__law_drawn : FuncData
  f__law_signs : Addr
  fd__law_signs : FuncData
  f__law_text : Addr
  fd__law_text : FuncData
  f__law_house : Addr
  fd__law_house : FuncData
  f__law_word : Addr
  fd__law_word : FuncData
  f__law_alike : Addr
  fd__law_alike : FuncData
  f__law_is_stretch : Addr
  fd__law_is_stretch : FuncData
  f__law_pieces : Addr
  fd__law_pieces : FuncData
  f__law_least : Addr
  fd__law_least : FuncData
  f__law_due : Addr
  fd__law_due : FuncData
  f__law_changed : Addr
  fd__law_changed : FuncData
  F_alike : Fun K "alike" "alike" s_alike f_alike fd_alike
  bd_alike : Binds K fd_alike p_alike []
  m_alike : mg "alike" = some (.ref f_alike)
  k_alike : PySem.W.keepIn K (.ref f_alike) = true
  F_size_of : Fun K "size_of" "size_of" s_size_of f_size_of fd_size_of
  bd_size_of : Binds K fd_size_of p_size_of []
  m_size_of : mg "size_of" = some (.ref f_size_of)
  k_size_of : PySem.W.keepIn K (.ref f_size_of) = true
  F_longest_stretch : Fun K "longest_stretch" "longest_stretch" s_longest_stretch f_longest_stretch fd_longest_stretch
  bd_longest_stretch : Binds K fd_longest_stretch p_longest_stretch []
  m_longest_stretch : mg "longest_stretch" = some (.ref f_longest_stretch)
  k_longest_stretch : PySem.W.keepIn K (.ref f_longest_stretch) = true
  F_cut_word : Fun K "cut_word" "cut_word" s_cut_word f_cut_word fd_cut_word
  bd_cut_word : Binds K fd_cut_word p_cut_word []
  m_cut_word : mg "cut_word" = some (.ref f_cut_word)
  k_cut_word : PySem.W.keepIn K (.ref f_cut_word) = true
  F_places : Fun K "places" "places" s_places f_places fd_places
  bd_places : Binds K fd_places p_places []
  m_places : mg "places" = some (.ref f_places)
  k_places : PySem.W.keepIn K (.ref f_places) = true
  F_told_windows : Fun K "told_windows" "told_windows" s_told_windows f_told_windows fd_told_windows
  bd_told_windows : Binds K fd_told_windows p_told_windows []
  m_told_windows : mg "told_windows" = some (.ref f_told_windows)
  k_told_windows : PySem.W.keepIn K (.ref f_told_windows) = true
  F_are_apart : Fun K "are_apart" "are_apart" s_are_apart f_are_apart fd_are_apart
  bd_are_apart : Binds K fd_are_apart p_are_apart []
  m_are_apart : mg "are_apart" = some (.ref f_are_apart)
  k_are_apart : PySem.W.keepIn K (.ref f_are_apart) = true
  F_word_windows : Fun K "word_windows" "word_windows" s_word_windows f_word_windows fd_word_windows
  bd_word_windows : Binds K fd_word_windows p_word_windows []
  m_word_windows : mg "word_windows" = some (.ref f_word_windows)
  k_word_windows : PySem.W.keepIn K (.ref f_word_windows) = true
  F_are_pieces_of : Fun K "are_pieces_of" "are_pieces_of" s_are_pieces_of f_are_pieces_of fd_are_pieces_of
  bd_are_pieces_of : Binds K fd_are_pieces_of p_are_pieces_of []
  m_are_pieces_of : mg "are_pieces_of" = some (.ref f_are_pieces_of)
  k_are_pieces_of : PySem.W.keepIn K (.ref f_are_pieces_of) = true
  F_check_word : Fun K "check_word" "check_word" s_check_word f_check_word fd_check_word
  bd_check_word : Binds K fd_check_word p_check_word []
  m_check_word : mg "check_word" = some (.ref f_check_word)
  k_check_word : PySem.W.keepIn K (.ref f_check_word) = true
  F__law_numbers : Fun K "_law_numbers" "_law_numbers" s__law_numbers f__law_numbers fd__law_numbers
  bd__law_numbers : Binds K fd__law_numbers p__law_numbers []
  m__law_numbers : mg "_law_numbers" = some (.ref f__law_numbers)
  k__law_numbers : PySem.W.keepIn K (.ref f__law_numbers) = true
  F__law_drawn : Fun K "_law_drawn" "_law_drawn" s__law_drawn f__law_drawn fd__law_drawn
  bd__law_drawn : Binds K fd__law_drawn p__law_drawn []
  m__law_drawn : mg "_law_drawn" = some (.ref f__law_drawn)
  k__law_drawn : PySem.W.keepIn K (.ref f__law_drawn) = true
  F__law_signs : Fun K "_law_signs" "_law_signs" s__law_signs f__law_signs fd__law_signs
  bd__law_signs : Binds K fd__law_signs p__law_signs []
  m__law_signs : mg "_law_signs" = some (.ref f__law_signs)
  k__law_signs : PySem.W.keepIn K (.ref f__law_signs) = true
  F__law_text : Fun K "_law_text" "_law_text" s__law_text f__law_text fd__law_text
  bd__law_text : Binds K fd__law_text p__law_text []
  m__law_text : mg "_law_text" = some (.ref f__law_text)
  k__law_text : PySem.W.keepIn K (.ref f__law_text) = true
  F__law_house : Fun K "_law_house" "_law_house" s__law_house f__law_house fd__law_house
  bd__law_house : Binds K fd__law_house p__law_house []
  m__law_house : mg "_law_house" = some (.ref f__law_house)
  k__law_house : PySem.W.keepIn K (.ref f__law_house) = true
  F__law_word : Fun K "_law_word" "_law_word" s__law_word f__law_word fd__law_word
  bd__law_word : Binds K fd__law_word p__law_word []
  m__law_word : mg "_law_word" = some (.ref f__law_word)
  k__law_word : PySem.W.keepIn K (.ref f__law_word) = true
  F__law_alike : Fun K "_law_alike" "_law_alike" s__law_alike f__law_alike fd__law_alike
  bd__law_alike : Binds K fd__law_alike p__law_alike []
  m__law_alike : mg "_law_alike" = some (.ref f__law_alike)
  k__law_alike : PySem.W.keepIn K (.ref f__law_alike) = true
  F__law_is_stretch : Fun K "_law_is_stretch" "_law_is_stretch" s__law_is_stretch f__law_is_stretch fd__law_is_stretch
  bd__law_is_stretch : Binds K fd__law_is_stretch p__law_is_stretch []
  m__law_is_stretch : mg "_law_is_stretch" = some (.ref f__law_is_stretch)
  k__law_is_stretch : PySem.W.keepIn K (.ref f__law_is_stretch) = true
  F__law_pieces : Fun K "_law_pieces" "_law_pieces" s__law_pieces f__law_pieces fd__law_pieces
  bd__law_pieces : Binds K fd__law_pieces p__law_pieces []
  m__law_pieces : mg "_law_pieces" = some (.ref f__law_pieces)
  k__law_pieces : PySem.W.keepIn K (.ref f__law_pieces) = true
  F__law_least : Fun K "_law_least" "_law_least" s__law_least f__law_least fd__law_least
  bd__law_least : Binds K fd__law_least p__law_least []
  m__law_least : mg "_law_least" = some (.ref f__law_least)
  k__law_least : PySem.W.keepIn K (.ref f__law_least) = true
  F__law_due : Fun K "_law_due" "_law_due" s__law_due f__law_due fd__law_due
  bd__law_due : Binds K fd__law_due p__law_due []
  m__law_due : mg "_law_due" = some (.ref f__law_due)
  k__law_due : PySem.W.keepIn K (.ref f__law_due) = true
  F__law_changed : Fun K "_law_changed" "_law_changed" s__law_changed f__law_changed fd__law_changed
  bd__law_changed : Binds K fd__law_changed p__law_changed []
  m__law_changed : mg "_law_changed" = some (.ref f__law_changed)
  k__law_changed : PySem.W.keepIn K (.ref f__law_changed) = true
  b_abs : mg "abs" = none
  b_dict : mg "dict" = none
  b_int : mg "int" = none
  b_isinstance : mg "isinstance" = none
  b_len : mg "len" = none
  b_list : mg "list" = none
  b_max : mg "max" = none
  b_min : mg "min" = none
  b_range : mg "range" = none
  b_repr : mg "repr" = none
section
variable {P : Program} {w : World} {K : PySem.W.Frag} {mg : Str → Option Value} {base : Heap}
set_option maxHeartbeats 4000000 in
theorem ok_alike (T : Txt K mg) : FnOk P w K mg base (L2.CX P w) 1 T.f_alike T.fd_alike p_alike (spD .pl mg 4 m_alike) :=
  DL.Fun.okD (M1 := []) (k := 0) T.F_alike sc_alike (by decide) fun cdv A outer s H E hr =>
    have S := sc_alike; have tk := @tkX P w K mg base n_alike "alike" (defScope s_alike) T.f_alike cdv A outer s H E; have po := @poX P w K mg base n_alike "alike" (defScope s_alike) T.f_alike cdv A outer s H E
    (dss_cons (ds_set rfl S.nd rfl (Or.inl rfl) de_int) (dss_cons (ds_while wfuel rfl po (dt_w (dw_and (dt_lt (de_add (de_var (pv 1) rfl) (de_var (pv 4) rfl)) (de_callB call_len cb_len rfl T.b_len bt_len (da_consC (de_var (pv 0) rfl) da_nil))) (dw_and (dt_lt (de_add (de_var (pv 3) rfl) (de_var (pv 4) rfl)) (de_callB call_len cb_len rfl T.b_len bt_len (da_consC (de_var (pv 2) rfl) da_nil))) (dw_and1 (dt_eq hr.units (de_ix (de_var (pv 0) rfl) (de_add (de_var (pv 1) rfl) (de_var (pv 4) rfl)) (fun _ _ => rfl)) (de_ix (de_var (pv 2) rfl) (de_add (de_var (pv 3) rfl) (de_var (pv 4) rfl)) (fun _ _ => rfl))))))) (dss_one (ds_augG rfl rfl (fun te h => ps_aug S.nd rfl (Or.inl rfl) h ip_addA) i2_addA de_int))) (dss_one (ds_ret rfl rfl (de_var (pv 4) rfl)))))
set_option maxHeartbeats 4000000 in
theorem ok_size_of (T : Txt K mg) : FnOk P w K mg base (L2.CX P w) 1 T.f_size_of T.fd_size_of p_size_of (spD .pl mg 1 m_size_of) :=
  DL.Fun.okD (M1 := []) (k := 0) T.F_size_of sc_size_of (by decide) fun cdv A outer s H E hr =>
    have S := sc_size_of; have tk := @tkX P w K mg base n_size_of "size_of" (defScope s_size_of) T.f_size_of cdv A outer s H E; have po := @poX P w K mg base n_size_of "size_of" (defScope s_size_of) T.f_size_of cdv A outer s H E
    (dss_cons (ds_if rfl (dt_eq hr.units (de_ix (de_var (pv 0) rfl) de_int (fun _ _ => rfl)) de_str) (dss_one (ds_ret rfl rfl de_int)) dss_nil) (dss_one (ds_ret rfl rfl (de_ix (de_var (pv 0) rfl) de_int (fun _ _ => rfl)))))
set_option maxHeartbeats 4000000 in
theorem ok_longest_stretch (T : Txt K mg) : FnOk P w K mg base (L2.CX P w) 2 T.f_longest_stretch T.fd_longest_stretch p_longest_stretch (spD .pl mg 3 m_longest_stretch) :=
  DL.Fun.okD (M1 := []) (k := 1) T.F_longest_stretch sc_longest_stretch (by decide) fun cdv A outer s H E hr =>
    have S := sc_longest_stretch; have tk := @tkX P w K mg base n_longest_stretch "longest_stretch" (defScope s_longest_stretch) T.f_longest_stretch cdv A outer s H E; have po := @poX P w K mg base n_longest_stretch "longest_stretch" (defScope s_longest_stretch) T.f_longest_stretch cdv A outer s H E
    (dss_cons (ds_set rfl S.nd rfl (Or.inl rfl) (de_tup (da_cons de_int (da_cons de_non da_nil)))) (dss_cons (ds_for rfl po rfl (di_seq (de_var (pv 0) rfl)) (dg_tup rfl (dgs_cons (dg_name (i := 4) S.nd rfl (Or.inl rfl)) (dgs_cons (dg_name (i := 5) S.nd rfl (Or.inl rfl)) dgs_nil))) (dss_cons (ds_for rfl po rfl (di_range1 rfl T.b_range (de_callB call_len cb_len rfl T.b_len bt_len (da_consC (de_var (pv 5) rfl) da_nil))) (dg_name (i := 6) S.nd rfl (Or.inl rfl)) (dss_cons (ds_set rfl S.nd rfl (Or.inl rfl) (de_call (ok_alike T) (hr.mono (by decide)) rfl T.m_alike T.k_alike T.bd_alike tk (da_cons (de_var (pv 1) rfl) (da_cons (de_var (pv 2) rfl) (da_cons (de_var (pv 5) rfl) (da_cons (de_var (pv 6) rfl) da_nil)))) (fun env ds h => by obtain ⟨_, r0, rfl, h0⟩ := aLen_cons h; obtain ⟨_, r1, rfl, h1⟩ := aLen_cons h0; obtain ⟨_, r2, rfl, h2⟩ := aLen_cons h1; obtain ⟨_, r3, rfl, h3⟩ := aLen_cons h2; cases h3; rfl))) (dss_cons (ds_if rfl (dt_gt (de_var (pv 7) rfl) (de_ix (de_var (pv 3) rfl) de_int (fun _ _ => rfl))) (dss_one (ds_set rfl S.nd rfl (Or.inl rfl) (de_tup (da_cons (de_var (pv 7) rfl) (da_cons (de_tup (da_cons (de_var (pv 4) rfl) (da_cons (de_var (pv 6) rfl) da_nil))) da_nil))))) dss_nil) (dss_weakR (N := [.fz, .fz, .fz, .fz, .fz, .fz, .un, .un]) rfl dss_nil)))) (dss_weakR (N := [.fz, .fz, .fz, .fz, .un, .un, .un, .un]) rfl dss_nil))) (dss_one (ds_ret rfl rfl (de_var (pv 3) rfl)))))
set_option maxHeartbeats 4000000 in
theorem ok_cut_word (T : Txt K mg) : FnOk P w K mg base (L2.CX P w) 3 T.f_cut_word T.fd_cut_word p_cut_word (spD .fr mg 2 m_cut_word) :=
  DL.Fun.okD (M1 := []) (k := 2) T.F_cut_word sc_cut_word (by decide) fun cdv A outer s H E hr =>
    have S := sc_cut_word; have tk := @tkX P w K mg base n_cut_word "cut_word" (defScope s_cut_word) T.f_cut_word cdv A outer s H E; have po := @poX P w K mg base n_cut_word "cut_word" (defScope s_cut_word) T.f_cut_word cdv A outer s H E
    (dss_cons (ds_setO rfl S.nd rfl (Or.inl rfl) (de_list da_nil)) (dss_cons (ds_set rfl S.nd rfl (Or.inl rfl) de_int) (dss_cons (ds_while wfuel rfl po (dt_lt (de_var (pv 3) rfl) (de_callB call_len cb_len rfl T.b_len bt_len (da_consC (de_var (pv 1) rfl) da_nil))) (dss_cons (ds_asg rfl (de_call (ok_longest_stretch T) (hr.mono (by decide)) rfl T.m_longest_stretch T.k_longest_stretch T.bd_longest_stretch tk (da_cons (de_var (pv 0) rfl) (da_cons (de_var (pv 1) rfl) (da_cons (de_var (pv 3) rfl) da_nil))) (fun env ds h => by obtain ⟨_, r0, rfl, h0⟩ := aLen_cons h; obtain ⟨_, r1, rfl, h1⟩ := aLen_cons h0; obtain ⟨_, r2, rfl, h2⟩ := aLen_cons h1; cases h2; rfl)) (dg_tup rfl (dgs_cons (dg_name (i := 4) S.nd rfl (Or.inl rfl)) (dgs_cons (dg_name (i := 5) S.nd rfl (Or.inl rfl)) dgs_nil)))) (dss_cons (ds_if rfl (dt_eq hr.units (de_var (pv 4) rfl) de_int) (dss_one (ds_append rfl rfl (pv 2) (de_tup (da_cons de_str (da_cons (de_ix (de_var (pv 1) rfl) (de_var (pv 3) rfl) (fun _ _ => rfl)) da_nil))))) (dss_one (ds_append rfl rfl (pv 2) (de_tup (da_cons de_str (da_star (de_var (pv 5) rfl) (da_cons (de_var (pv 4) rfl) da_nil))))))) (dss_cons (ds_augG rfl rfl (fun te h => ps_aug S.nd rfl (Or.inl rfl) h ip_addA) i2_addA (de_callB (call_max2 rfl) cb_max rfl T.b_max bt_max (da_consC (de_var (pv 4) rfl) (da_consC de_int da_nil)))) (dss_weakR (N := [.fz, .fz, .ow, .fz, .un, .un]) rfl dss_nil))))) (dss_one (ds_retO (i := 2) rfl rfl (pv 2))))))
set_option maxHeartbeats 4000000 in
theorem ok_places (T : Txt K mg) : FnOk P w K mg base (L2.CX P w) 1 T.f_places T.fd_places p_places (spD .fr mg 2 m_places) :=
  DL.Fun.okD (M1 := []) (k := 0) T.F_places sc_places (by decide) fun cdv A outer s H E hr =>
    have S := sc_places; have tk := @tkX P w K mg base n_places "places" (defScope s_places) T.f_places cdv A outer s H E; have po := @poX P w K mg base n_places "places" (defScope s_places) T.f_places cdv A outer s H E
    (dss_cons (ds_setO rfl S.nd rfl (Or.inl rfl) (de_list da_nil)) (dss_cons (ds_for rfl po rfl (di_seq (de_var (pv 0) rfl)) (dg_tup rfl (dgs_cons (dg_name (i := 3) S.nd rfl (Or.inl rfl)) (dgs_cons (dg_name (i := 4) S.nd rfl (Or.inl rfl)) dgs_nil))) (dss_cons (ds_for rfl po rfl (di_range1 rfl T.b_range (de_add (de_sub (de_callB call_len cb_len rfl T.b_len bt_len (da_consC (de_var (pv 4) rfl) da_nil)) (de_callB call_len cb_len rfl T.b_len bt_len (da_consC (de_var (pv 1) rfl) da_nil))) de_int)) (dg_name (i := 5) S.nd rfl (Or.inl rfl)) (dss_cons (ds_if rfl (dt_eq hr.units (de_sl (de_var (pv 4) rfl) (do_some (de_var (pv 5) rfl)) (do_some (de_add (de_var (pv 5) rfl) (de_callB call_len cb_len rfl T.b_len bt_len (da_consC (de_var (pv 1) rfl) da_nil))))) (de_var (pv 1) rfl)) (dss_one (ds_append rfl rfl (pv 2) (de_tup (da_cons (de_var (pv 3) rfl) (da_cons (de_var (pv 5) rfl) da_nil))))) dss_nil) (dss_weakR (N := [.fz, .fz, .ow, .fz, .fz, .un]) rfl dss_nil))) (dss_weakR (N := [.fz, .fz, .ow, .un, .un, .un]) rfl dss_nil))) (dss_one (ds_retO (i := 2) rfl rfl (pv 2)))))
set_option maxHeartbeats 4000000 in
theorem ok_told_windows (T : Txt K mg) : FnOk P w K mg base (L2.CX P w) 2 T.f_told_windows T.fd_told_windows p_told_windows (spD .fr mg 2 m_told_windows) :=
  DL.Fun.okD (M1 := []) (k := 1) T.F_told_windows sc_told_windows (by decide) fun cdv A outer s H E hr =>
    have S := sc_told_windows; have tk := @tkX P w K mg base n_told_windows "told_windows" (defScope s_told_windows) T.f_told_windows cdv A outer s H E; have po := @poX P w K mg base n_told_windows "told_windows" (defScope s_told_windows) T.f_told_windows cdv A outer s H E
    (dss_cons (ds_setO rfl S.nd rfl (Or.inl rfl) (de_list da_nil)) (dss_cons (ds_set rfl S.nd rfl (Or.inl rfl) de_int) (dss_cons (ds_for rfl po rfl (di_seq (de_var (pv 0) rfl)) (dg_name (i := 4) S.nd rfl (Or.inl rfl)) (dss_cons (ds_set rfl S.nd rfl (Or.inl rfl) (de_add (de_var (pv 3) rfl) (de_call (ok_size_of T) (hr.mono (by decide)) rfl T.m_size_of T.k_size_of T.bd_size_of tk (da_cons (de_var (pv 4) rfl) da_nil) (fun env ds h => by obtain ⟨_, r0, rfl, h0⟩ := aLen_cons h; cases h0; rfl)))) (dss_cons (ds_if rfl (dt_lt (de_var (pv 5) rfl) (de_var (pv 1) rfl)) (dss_one (ds_append rfl rfl (pv 2) (de_tup (da_cons (de_var (pv 3) rfl) (da_cons (de_var (pv 5) rfl) da_nil))))) dss_nil) (dss_cons (ds_set rfl S.nd rfl (Or.inl rfl) (de_var (pv 5) rfl)) (dss_weakR (N := [.fz, .fz, .ow, .fz, .un, .un]) rfl dss_nil))))) (dss_one (ds_retO (i := 2) rfl rfl (pv 2))))))
set_option maxHeartbeats 4000000 in
theorem ok_are_apart (T : Txt K mg) : FnOk P w K mg base (L2.CX P w) 1 T.f_are_apart T.fd_are_apart p_are_apart (spD .pl mg 1 m_are_apart) :=
  DL.Fun.okD (M1 := []) (k := 0) T.F_are_apart sc_are_apart (by decide) fun cdv A outer s H E hr =>
    have S := sc_are_apart; have tk := @tkX P w K mg base n_are_apart "are_apart" (defScope s_are_apart) T.f_are_apart cdv A outer s H E; have po := @poX P w K mg base n_are_apart "are_apart" (defScope s_are_apart) T.f_are_apart cdv A outer s H E
    (dss_cons (ds_for rfl po rfl (di_rangeG rfl T.b_range de_int (de_callB call_len cb_len rfl T.b_len bt_len (da_consC (de_var (pv 0) rfl) da_nil))) (dg_name (i := 1) S.nd rfl (Or.inl rfl)) (dss_cons (ds_if rfl (dt_w (dw_or (dt_geDD (hr65 hr) (de_ix (de_var (pv 0) rfl) (de_sub (de_var (pv 1) rfl) de_int) (fun _ _ => rfl)) (de_ix (de_var (pv 0) rfl) (de_var (pv 1) rfl) (fun _ _ => rfl))) (dw_or1 (dt_w (dw_and (dt_eq hr.units (de_ix (de_ix (de_var (pv 0) rfl) (de_sub (de_var (pv 1) rfl) de_int) (fun _ _ => rfl)) de_int (fun _ _ => rfl)) (de_ix (de_ix (de_var (pv 0) rfl) (de_var (pv 1) rfl) (fun _ _ => rfl)) de_int (fun _ _ => rfl))) (dw_and1 (dt_lt (de_ix (de_ix (de_var (pv 0) rfl) (de_var (pv 1) rfl) (fun _ _ => rfl)) de_int (fun _ _ => rfl)) (de_ix (de_ix (de_var (pv 0) rfl) (de_sub (de_var (pv 1) rfl) de_int) (fun _ _ => rfl)) de_int (fun _ _ => rfl))))))))) (dss_one (ds_ret rfl rfl de_bl)) dss_nil) (dss_weakR (N := [.fz, .un]) rfl dss_nil))) (dss_one (ds_ret rfl rfl de_bl)))
set_option maxHeartbeats 4000000 in
theorem ok_word_windows (T : Txt K mg) : FnOk P w K mg base (L2.CX P w) 4 T.f_word_windows T.fd_word_windows p_word_windows (spD .pl mg 2 m_word_windows) :=
  DL.Fun.okD (M1 := []) (k := 3) T.F_word_windows sc_word_windows (by decide) fun cdv A outer s H E hr =>
    have S := sc_word_windows; have tk := @tkX P w K mg base n_word_windows "word_windows" (defScope s_word_windows) T.f_word_windows cdv A outer s H E; have po := @poX P w K mg base n_word_windows "word_windows" (defScope s_word_windows) T.f_word_windows cdv A outer s H E
    (dss_one (ds_ret rfl rfl (DE.pl (de_call (ok_told_windows T) (hr.mono (by decide)) rfl T.m_told_windows T.k_told_windows T.bd_told_windows tk (da_cons (DE.pl (de_call (ok_cut_word T) (hr.mono (by decide)) rfl T.m_cut_word T.k_cut_word T.bd_cut_word tk (da_cons (de_var (pv 0) rfl) (da_cons (de_var (pv 1) rfl) da_nil)) (fun env ds h => by obtain ⟨_, r0, rfl, h0⟩ := aLen_cons h; obtain ⟨_, r1, rfl, h1⟩ := aLen_cons h0; cases h1; rfl))) (da_cons (de_callB call_len cb_len rfl T.b_len bt_len (da_consC (de_var (pv 1) rfl) da_nil)) da_nil)) (fun env ds h => by obtain ⟨_, r0, rfl, h0⟩ := aLen_cons h; obtain ⟨_, r1, rfl, h1⟩ := aLen_cons h0; cases h1; rfl)))))
set_option maxHeartbeats 4000000 in
theorem ok_are_pieces_of (T : Txt K mg) : FnOk P w K mg base (L2.CX P w) 1 T.f_are_pieces_of T.fd_are_pieces_of p_are_pieces_of (spD .pl mg 3 m_are_pieces_of) :=
  DL.Fun.okD (M1 := []) (k := 0) T.F_are_pieces_of sc_are_pieces_of (by decide) fun cdv A outer s H E hr =>
    have S := sc_are_pieces_of; have tk := @tkX P w K mg base n_are_pieces_of "are_pieces_of" (defScope s_are_pieces_of) T.f_are_pieces_of cdv A outer s H E; have po := @poX P w K mg base n_are_pieces_of "are_pieces_of" (defScope s_are_pieces_of) T.f_are_pieces_of cdv A outer s H E
    (dss_cons (ds_set rfl S.nd rfl (Or.inl rfl) (DE.pl (de_callTy (call_dictP rfl) cb_dict rfl T.b_dict bt_dict (da_consC (de_var (pv 0) rfl) da_nil)))) (dss_cons (ds_set rfl S.nd rfl (Or.inl rfl) de_int) (dss_cons (ds_for rfl po rfl (di_seq (de_var (pv 2) rfl)) (dg_name (i := 5) S.nd rfl (Or.inl rfl)) (dss_cons (ds_if rfl (dt_eq hr.units (de_ix (de_var (pv 5) rfl) de_int (fun _ _ => rfl)) de_str) (dss_one (ds_set rfl S.nd rfl (Or.inl rfl) (de_ix (de_var (pv 5) rfl) de_int (fun _ _ => rfl)))) (dss_cons (ds_asg rfl (de_var (pv 5) rfl) (dg_tup rfl (dgs_cons (dg_name (i := 7) S.nd rfl (Or.inl rfl)) (dgs_cons (dg_name (i := 8) S.nd rfl (Or.inl rfl)) (dgs_cons (dg_name (i := 9) S.nd rfl (Or.inl rfl)) (dgs_cons (dg_name (i := 10) S.nd rfl (Or.inl rfl)) dgs_nil)))))) (dss_cons (ds_if rfl (dt_w (dw_or (dt_notInK (hr65 hr) (de_var (pv 8) rfl) (de_var (pv 3) rfl)) (dw_or (dt_lt (de_var (pv 10) rfl) de_int) (dw_or (dt_lt (de_var (pv 9) rfl) de_int) (dw_or1 (dt_gt (de_add (de_var (pv 9) rfl) (de_var (pv 10) rfl)) (de_callB call_len cb_len rfl T.b_len bt_len (da_consC (de_dix (hr65 hr) (de_var (pv 3) rfl) (de_var (pv 8) rfl) (fun _ _ => rfl)) da_nil)))))))) (dss_one (ds_ret rfl rfl de_bl)) dss_nil) (dss_cons (ds_set rfl S.nd rfl (Or.inl rfl) (de_sl (de_dix (hr65 hr) (de_var (pv 3) rfl) (de_var (pv 8) rfl) (fun _ _ => rfl)) (do_some (de_var (pv 9) rfl)) (do_some (de_add (de_var (pv 9) rfl) (de_var (pv 10) rfl))))) (dss_weakR (N := [.fz, .fz, .fz, .fz, .fz, .fz, .fz, .un, .un, .un, .un]) rfl dss_nil))))) (dss_cons (ds_if rfl (dt_ne hr.units (de_sl (de_var (pv 1) rfl) (do_some (de_var (pv 4) rfl)) (do_some (de_add (de_var (pv 4) rfl) (de_callB call_len cb_len rfl T.b_len bt_len (da_consC (de_var (pv 6) rfl) da_nil))))) (de_var (pv 6) rfl)) (dss_one (ds_ret rfl rfl de_bl)) dss_nil) (dss_cons (ds_augG rfl rfl (fun te h => ps_aug S.nd rfl (Or.inl rfl) h ip_addA) i2_addA (de_callB call_len cb_len rfl T.b_len bt_len (da_consC (de_var (pv 6) rfl) da_nil))) (dss_weakR (N := [.fz, .fz, .fz, .fz, .fz, .un, .un, .un, .un, .un, .un]) rfl dss_nil))))) (dss_one (ds_ret rfl rfl (de_eq hr.units (de_var (pv 4) rfl) (de_callB call_len cb_len rfl T.b_len bt_len (da_consC (de_var (pv 1) rfl) da_nil))))))))
set_option maxHeartbeats 4000000 in
theorem ok_check_word (T : Txt K mg) : FnOk P w K mg base (L2.CX P w) 2 T.f_check_word T.fd_check_word p_check_word (spD .pl mg 4 m_check_word) :=
  DL.Fun.okD (M1 := []) (k := 1) T.F_check_word sc_check_word (by decide) fun cdv A outer s H E hr =>
    have S := sc_check_word; have tk := @tkX P w K mg base n_check_word "check_word" (defScope s_check_word) T.f_check_word cdv A outer s H E; have po := @poX P w K mg base n_check_word "check_word" (defScope s_check_word) T.f_check_word cdv A outer s H E
    (dss_cons (ds_if rfl (dt_w (dw_or (dt_not (dt_val (de_call (ok_are_pieces_of T) (hr.mono (by decide)) rfl T.m_are_pieces_of T.k_are_pieces_of T.bd_are_pieces_of tk (da_cons (de_var (pv 0) rfl) (da_cons (de_var (pv 1) rfl) (da_cons (de_var (pv 2) rfl) da_nil))) (fun env ds h => by obtain ⟨_, r0, rfl, h0⟩ := aLen_cons h; obtain ⟨_, r1, rfl, h1⟩ := aLen_cons h0; obtain ⟨_, r2, rfl, h2⟩ := aLen_cons h1; cases h2; rfl)))) (dw_or1 (dt_not (dt_val (de_call (ok_are_apart T) (hr.mono (by decide)) rfl T.m_are_apart T.k_are_apart T.bd_are_apart tk (da_cons (DE.pl (de_lc (own := [("start", 4), ("stop", 5)]) rfl S.nd (by decide) (DIS.of (di_seq (de_var (pv 3) rfl))) (blkOk_by (N := n_check_word) (sc := (defScope s_check_word)) (by decide +kernel)) (fun _ _ _ _ _ => (dg_tup rfl (dgs_cons (dg_name (i := 4) S.nd rfl (Or.inl rfl)) (dgs_cons (dg_name (i := 5) S.nd rfl (Or.inl rfl)) dgs_nil)))) (fun _ _ _ _ _ => dts_nil) (fun _ _ _ _ _ => (de_tup (da_cons de_int (da_cons (de_var (pv 4) rfl) (da_cons (de_var (pv 5) rfl) da_nil))))))) da_nil) (fun env ds h => by obtain ⟨_, r0, rfl, h0⟩ := aLen_cons h; cases h0; rfl))))))) (dss_one (ds_ret rfl rfl de_bl)) dss_nil) (dss_cons (ds_for rfl po rfl (di_seq (de_var (pv 3) rfl)) (dg_tup rfl (dgs_cons (dg_name (i := 4) S.nd rfl (Or.inl rfl)) (dgs_cons (dg_name (i := 5) S.nd rfl (Or.inl rfl)) dgs_nil))) (dss_cons (ds_if rfl (dt_w (dw_or (dt_not (dt_chain3 op_le op_lt op_lt b2_le b2_lt b2_lt de_int (de_var (pv 4) rfl) (de_var (pv 5) rfl) (de_callB call_len cb_len rfl T.b_len bt_len (da_consC (de_var (pv 1) rfl) da_nil)))) (dw_or1 (dt_ne hr.units (de_call (ok_places T) (hr.mono (by decide)) rfl T.m_places T.k_places T.bd_places tk (da_cons (de_var (pv 0) rfl) (da_cons (de_sl (de_var (pv 1) rfl) (do_some (de_var (pv 4) rfl)) (do_some (de_add (de_var (pv 5) rfl) de_int))) da_nil)) (fun env ds h => by obtain ⟨_, r0, rfl, h0⟩ := aLen_cons h; obtain ⟨_, r1, rfl, h1⟩ := aLen_cons h0; cases h1; rfl)) (de_list da_nil))))) (dss_one (ds_ret rfl rfl de_bl)) dss_nil) (dss_weakR (N := [.fz, .fz, .fz, .fz, .un, .un]) rfl dss_nil))) (dss_one (ds_ret rfl rfl (de_eq hr.units (de_callB call_len cb_len rfl T.b_len bt_len (da_consC (de_var (pv 2) rfl) da_nil)) (de_add (de_callB call_len cb_len rfl T.b_len bt_len (da_consC (de_var (pv 3) rfl) da_nil)) (de_callTy call_int1 cb_int rfl T.b_int bt_int (da_consC (de_ne hr.units (de_var (pv 1) rfl) de_str) da_nil))))))))
set_option maxHeartbeats 4000000 in
theorem ok__law_numbers (T : Txt K mg) : FnOk P w K mg base (L2.CX P w) 1 T.f__law_numbers T.fd__law_numbers p__law_numbers (spD .fr mg 2 m__law_numbers) :=
  DL.Fun.okD (M1 := []) (k := 0) T.F__law_numbers sc__law_numbers (by decide) fun cdv A outer s H E hr =>
    have S := sc__law_numbers; have tk := @tkX P w K mg base n__law_numbers "_law_numbers" (defScope s__law_numbers) T.f__law_numbers cdv A outer s H E; have po := @poX P w K mg base n__law_numbers "_law_numbers" (defScope s__law_numbers) T.f__law_numbers cdv A outer s H E
    (dss_cons (ds_setO rfl S.nd rfl (Or.inl rfl) (de_cat (de_lc (own := [("cell", 7)]) rfl S.nd (by decide) (DIS.of (di_seq (de_sl (de_var (pv 0) rfl) do_none (do_some de_int)))) (blkOk_by (N := n__law_numbers) (sc := (defScope s__law_numbers)) (by decide +kernel)) (fun _ _ _ _ _ => (dg_name (i := 7) S.nd rfl (Or.inl rfl))) (fun _ _ _ _ _ => dts_nil) (fun _ _ _ _ _ => (de_callB call_abs cb_abs rfl T.b_abs bt_abs (da_consC (de_var (pv 7) rfl) da_nil)))) (de_list (da_cons de_int da_nil)))) (dss_cons (ds_if rfl (dt_gt (de_callB call_len cb_len rfl T.b_len bt_len (da_consC (de_var (pv 0) rfl) da_nil)) de_int) (dss_one (ds_setO rfl S.nd rfl (Or.inl rfl) (de_slL (de_varO (pv 2) rfl) do_none (do_some (de_neg de_int))))) dss_nil) (dss_cons (ds_setLc (i := 3) rfl (own := [("cell", 7)]) rfl S.nd (by decide) (dis_own (de_varO (pv 2) rfl)) (blkOk_by (N := n__law_numbers) (sc := (defScope s__law_numbers)) (by decide +kernel)) (fun _ _ _ _ _ => (dg_name (i := 7) S.nd rfl (Or.inl rfl))) (fun _ _ _ _ _ => dts_nil) (fun _ _ _ _ _ => (de_mod (de_callTy call_int1 cb_int rfl T.b_int bt_int (da_consC (de_add (de_mul (de_var (pv 7) rfl) de_int) de_int) da_nil)) de_int))) (dss_cons (ds_setO rfl S.nd rfl (Or.inl rfl) (de_list da_nil)) (dss_cons (ds_for rfl po rfl (di_range1 rfl T.b_range (de_var (pv 1) rfl)) (dg_name (i := 5) S.nd rfl (Or.inl rfl)) (dss_cons (ds_set rfl S.nd rfl (Or.inl rfl) (de_mod (de_callTy call_int1 cb_int rfl T.b_int bt_int (da_consC (de_var (pv 5) rfl) da_nil)) (de_callB call_len cb_len rfl T.b_len bt_len (da_consC (de_varO (pv 2) rfl) da_nil)))) (dss_cons (ds_if rfl (dt_ge (de_ix (de_varO (pv 2) rfl) (de_var (pv 6) rfl) (fun _ _ => rfl)) (de_pow de_int de_int)) (dss_cons (ds_append rfl rfl (pv 4) (de_mod (de_callTy call_int1 cb_int rfl T.b_int bt_int (da_consC (de_ix (de_varO (pv 2) rfl) (de_var (pv 6) rfl) (fun _ _ => rfl)) da_nil)) de_int)) (dss_one (ds_put rfl rfl (pv 2) (de_var (pv 6) rfl) (de_fdiv (de_ix (de_varO (pv 2) rfl) (de_var (pv 6) rfl) (fun _ _ => rfl)) de_int) (fun _ _ h1 h2 => pg_sub h1 h2 set_list)))) (dss_cons (ds_put rfl rfl (pv 3) (de_var (pv 6) rfl) (de_mod (de_callTy call_int1 cb_int rfl T.b_int bt_int (da_consC (de_add (de_add (de_mul (de_ix (de_varO (pv 3) rfl) (de_var (pv 6) rfl) (fun _ _ => rfl)) de_int) de_int) (de_mul de_int (de_var (pv 5) rfl))) da_nil)) de_int) (fun _ _ h1 h2 => pg_sub h1 h2 set_list)) (dss_one (ds_append rfl rfl (pv 4) (de_mod (de_callTy call_int1 cb_int rfl T.b_int bt_int (da_consC (de_add (de_ix (de_varO (pv 2) rfl) (de_var (pv 6) rfl) (fun _ _ => rfl)) (de_fdiv (de_ix (de_varO (pv 3) rfl) (de_var (pv 6) rfl) (fun _ _ => rfl)) de_int)) da_nil)) de_int))))) (dss_weakR (N := [.fz, .fz, .ow, .ow, .ow, .un, .un, .un]) rfl dss_nil)))) (dss_one (ds_retO (i := 4) rfl rfl (pv 4))))))))
set_option maxHeartbeats 4000000 in
theorem ok__law_drawn (T : Txt K mg) : FnOk P w K mg base (L2.CX P w) 1 T.f__law_drawn T.fd__law_drawn p__law_drawn (spD .pl mg 2 m__law_drawn) :=
  DL.Fun.okD (M1 := []) (k := 0) T.F__law_drawn sc__law_drawn (by decide) fun cdv A outer s H E hr =>
    have S := sc__law_drawn; have tk := @tkX P w K mg base n__law_drawn "_law_drawn" (defScope s__law_drawn) T.f__law_drawn cdv A outer s H E; have po := @poX P w K mg base n__law_drawn "_law_drawn" (defScope s__law_drawn) T.f__law_drawn cdv A outer s H E
    (dss_one (ds_ret rfl rfl (de_ix (de_var (pv 0) rfl) (de_mod (de_callTy call_int1 cb_int rfl T.b_int bt_int (da_consC (de_var (pv 1) rfl) da_nil)) (de_callB call_len cb_len rfl T.b_len bt_len (da_consC (de_var (pv 0) rfl) da_nil))) (fun _ _ => rfl))))
set_option maxHeartbeats 4000000 in
theorem ok__law_signs (T : Txt K mg) : FnOk P w K mg base (L2.CX P w) 1 T.f__law_signs T.fd__law_signs p__law_signs (spD .pl mg 2 m__law_signs) :=
  DL.Fun.okD (M1 := []) (k := 0) T.F__law_signs sc__law_signs (by decide) fun cdv A outer s H E hr =>
    have S := sc__law_signs; have tk := @tkX P w K mg base n__law_signs "_law_signs" (defScope s__law_signs) T.f__law_signs cdv A outer s H E; have po := @poX P w K mg base n__law_signs "_law_signs" (defScope s__law_signs) T.f__law_signs cdv A outer s H E
    (dss_cons (ds_set rfl S.nd rfl (Or.inl rfl) de_str) (dss_one (ds_ret rfl rfl (de_sl (de_sl (de_var (pv 2) rfl) (do_some (de_mod (de_callTy call_int1 cb_int rfl T.b_int bt_int (da_consC (de_var (pv 0) rfl) da_nil)) (de_sub de_int (de_var (pv 1) rfl)))) do_none) do_none (do_some (de_var (pv 1) rfl))))))
set_option maxHeartbeats 4000000 in
theorem ok__law_text (T : Txt K mg) : FnOk P w K mg base (L2.CX P w) 2 T.f__law_text T.fd__law_text p__law_text (spD .pl mg 3 m__law_text) :=
  DL.Fun.okD (M1 := []) (k := 1) T.F__law_text sc__law_text (by decide) fun cdv A outer s H E hr =>
    have S := sc__law_text; have tk := @tkX P w K mg base n__law_text "_law_text" (defScope s__law_text) T.f__law_text cdv A outer s H E; have po := @poX P w K mg base n__law_text "_law_text" (defScope s__law_text) T.f__law_text cdv A outer s H E
    (dss_cons (ds_set rfl S.nd rfl (Or.inl rfl) (de_call (ok__law_drawn T) (hr.mono (by decide)) rfl T.m__law_drawn T.k__law_drawn T.bd__law_drawn tk (da_cons (de_var (pv 0) rfl) (da_cons (de_var (pv 1) rfl) da_nil)) (fun env ds h => by obtain ⟨_, r0, rfl, h0⟩ := aLen_cons h; obtain ⟨_, r1, rfl, h1⟩ := aLen_cons h0; cases h1; rfl))) (dss_cons (ds_set rfl S.nd rfl (Or.inr rfl) (de_ix (de_list (da_cons de_str (da_cons de_str (da_cons de_str (da_cons de_str (da_cons de_str (da_cons de_str (da_cons de_str (da_cons (de_call (ok__law_signs T) (hr.mono (by decide)) rfl T.m__law_signs T.k__law_signs T.bd__law_signs tk (da_cons (de_fdiv (de_var (pv 3) rfl) de_int) (da_cons de_int da_nil)) (fun env ds h => by obtain ⟨_, r0, rfl, h0⟩ := aLen_cons h; obtain ⟨_, r1, rfl, h1⟩ := aLen_cons h0; cases h1; rfl)) da_nil))))))))) (de_mod (de_callTy call_int1 cb_int rfl T.b_int bt_int (da_consC (de_var (pv 3) rfl) da_nil)) de_int) (fun _ _ => rfl))) (dss_cons (ds_set rfl S.nd rfl (Or.inl rfl) (de_mod (de_callTy call_int1 cb_int rfl T.b_int bt_int (da_consC (de_fdiv (de_var (pv 3) rfl) de_int) da_nil)) (de_add (de_var (pv 2) rfl) de_int))) (dss_cons (ds_set rfl S.nd rfl (Or.inl rfl) (de_mod (de_callTy call_int1 cb_int rfl T.b_int bt_int (da_consC (de_fdiv (de_var (pv 3) rfl) de_int) da_nil)) de_int)) (dss_cons (ds_if rfl (dt_eq hr.units (de_var (pv 6) rfl) de_int) (dss_cons (ds_set rfl S.nd rfl (Or.inl rfl) (de_join de_str (de_lc (own := [("j", 8)]) rfl S.nd (by decide) (DIS.of (di_range1 rfl T.b_range (de_add de_int (de_mod (de_callTy call_int1 cb_int rfl T.b_int bt_int (da_consC (de_fdiv (de_var (pv 3) rfl) de_int) da_nil)) de_int)))) (blkOk_by (N := n__law_text) (sc := (defScope s__law_text)) (by decide +kernel)) (fun _ _ _ _ _ => (dg_name (i := 8) S.nd rfl (Or.inl rfl))) (fun _ _ _ _ _ => dts_nil) (fun _ _ _ _ _ => (de_ix (de_var (pv 4) rfl) (de_mod (de_callTy call_int1 cb_int rfl T.b_int bt_int (da_consC (de_call (ok__law_drawn T) (hr.mono (by decide)) rfl T.m__law_drawn T.k__law_drawn T.bd__law_drawn takes0 (da_cons (de_var (pv 0) rfl) (da_cons (de_add (de_add (de_var (pv 1) rfl) de_int) (de_var (pv 8) rfl)) da_nil)) (fun env ds h => by obtain ⟨_, r0, rfl, h0⟩ := aLen_cons h; obtain ⟨_, r1, rfl, h1⟩ := aLen_cons h0; cases h1; rfl)) da_nil)) (de_callB call_len cb_len rfl T.b_len bt_len (da_consC (de_var (pv 4) rfl) da_nil))) (fun _ _ => rfl)))))) (dss_one (ds_ret rfl rfl (de_sl (de_mul (de_var (pv 7) rfl) (de_add (de_var (pv 2) rfl) de_int)) do_none (do_some (de_var (pv 5) rfl)))))) dss_nil) (dss_one (ds_ret rfl rfl (de_join de_str (de_lc (own := [("j", 8)]) rfl S.nd (by decide) (DIS.of (di_range1 rfl T.b_range (de_var (pv 5) rfl))) (blkOk_by (N := n__law_text) (sc := (defScope s__law_text)) (by decide +kernel)) (fun _ _ _ _ _ => (dg_name (i := 8) S.nd rfl (Or.inl rfl))) (fun _ _ _ _ _ => dts_nil) (fun _ _ _ _ _ => (de_ix (de_var (pv 4) rfl) (de_mod (de_callTy call_int1 cb_int rfl T.b_int bt_int (da_consC (de_call (ok__law_drawn T) (hr.mono (by decide)) rfl T.m__law_drawn T.k__law_drawn T.bd__law_drawn takes0 (da_cons (de_var (pv 0) rfl) (da_cons (de_add (de_add (de_var (pv 1) rfl) de_int) (de_var (pv 8) rfl)) da_nil)) (fun env ds h => by obtain ⟨_, r0, rfl, h0⟩ := aLen_cons h; obtain ⟨_, r1, rfl, h1⟩ := aLen_cons h0; cases h1; rfl)) da_nil)) (de_callB call_len cb_len rfl T.b_len bt_len (da_consC (de_var (pv 4) rfl) da_nil))) (fun _ _ => rfl))))))))))))
set_option maxHeartbeats 4000000 in
theorem ok__law_house (T : Txt K mg) : FnOk P w K mg base (L2.CX P w) 3 T.f__law_house T.fd__law_house p__law_house (spD .fr mg 4 m__law_house) :=
  DL.Fun.okD (M1 := []) (k := 2) T.F__law_house sc__law_house (by decide) fun cdv A outer s H E hr =>
    have S := sc__law_house; have tk := @tkX P w K mg base n__law_house "_law_house" (defScope s__law_house) T.f__law_house cdv A outer s H E; have po := @poX P w K mg base n__law_house "_law_house" (defScope s__law_house) T.f__law_house cdv A outer s H E
    (dss_cons (ds_setO rfl S.nd rfl (Or.inl rfl) (de_list da_nil)) (dss_cons (ds_set rfl S.nd rfl (Or.inl rfl) (de_neg de_int)) (dss_cons (ds_for rfl po rfl (di_range1 rfl T.b_range (de_mod (de_callTy call_int1 cb_int rfl T.b_int bt_int (da_consC (de_call (ok__law_drawn T) (hr.mono (by decide)) rfl T.m__law_drawn T.k__law_drawn T.bd__law_drawn tk (da_cons (de_var (pv 0) rfl) (da_cons (de_var (pv 1) rfl) da_nil)) (fun env ds h => by obtain ⟨_, r0, rfl, h0⟩ := aLen_cons h; obtain ⟨_, r1, rfl, h1⟩ := aLen_cons h0; cases h1; rfl)) da_nil)) (de_add (de_var (pv 2) rfl) de_int))) (dg_name (i := 6) S.nd rfl (Or.inl rfl)) (dss_cons (ds_set rfl S.nd rfl (Or.inl rfl) (de_add (de_add (de_var (pv 5) rfl) de_int) (de_mod (de_callTy call_int1 cb_int rfl T.b_int bt_int (da_consC (de_call (ok__law_drawn T) (hr.mono (by decide)) rfl T.m__law_drawn T.k__law_drawn T.bd__law_drawn tk (da_cons (de_var (pv 0) rfl) (da_cons (de_add (de_add (de_var (pv 1) rfl) de_int) (de_var (pv 6) rfl)) da_nil)) (fun env ds h => by obtain ⟨_, r0, rfl, h0⟩ := aLen_cons h; obtain ⟨_, r1, rfl, h1⟩ := aLen_cons h0; cases h1; rfl)) da_nil)) de_int))) (dss_cons (ds_set rfl S.nd rfl (Or.inl rfl) (de_call (ok__law_text T) (hr.mono (by decide)) rfl T.m__law_text T.k__law_text T.bd__law_text tk (da_cons (de_var (pv 0) rfl) (da_cons (de_add (de_add (de_var (pv 1) rfl) de_int) (de_mul de_int (de_var (pv 6) rfl))) (da_cons (de_var (pv 3) rfl) da_nil))) (fun env ds h => by obtain ⟨_, r0, rfl, h0⟩ := aLen_cons h; obtain ⟨_, r1, rfl, h1⟩ := aLen_cons h0; obtain ⟨_, r2, rfl, h2⟩ := aLen_cons h1; cases h2; rfl))) (dss_cons (ds_if rfl (dt_w (dw_and (dt_gt (de_var (pv 6) rfl) de_int) (dw_and1 (dt_eq hr.units (de_mod (de_callTy call_int1 cb_int rfl T.b_int bt_int (da_consC (de_call (ok__law_drawn T) (hr.mono (by decide)) rfl T.m__law_drawn T.k__law_drawn T.bd__law_drawn tk (da_cons (de_var (pv 0) rfl) (da_cons (de_add (de_add (de_var (pv 1) rfl) de_int) (de_var (pv 6) rfl)) da_nil)) (fun env ds h => by obtain ⟨_, r0, rfl, h0⟩ := aLen_cons h; obtain ⟨_, r1, rfl, h1⟩ := aLen_cons h0; cases h1; rfl)) da_nil)) de_int) de_int)))) (dss_one (ds_set rfl S.nd rfl (Or.inl rfl) (de_sl (de_add (de_ix (de_ix (de_varO (pv 4) rfl) (de_sub (de_var (pv 6) rfl) de_int) (fun _ _ => rfl)) de_int (fun _ _ => rfl)) (de_var (pv 7) rfl)) do_none (do_some (de_var (pv 3) rfl))))) dss_nil) (dss_cons (ds_append rfl rfl (pv 4) (de_tup (da_cons (de_var (pv 5) rfl) (da_cons (de_var (pv 7) rfl) da_nil)))) (dss_weakR (N := [.fz, .fz, .fz, .fz, .ow, .fz, .un, .un]) rfl dss_nil)))))) (dss_one (ds_retO (i := 4) rfl rfl (pv 4))))))
set_option maxHeartbeats 4000000 in
theorem ok__law_word (T : Txt K mg) : FnOk P w K mg base (L2.CX P w) 2 T.f__law_word T.fd__law_word p__law_word (spD .pl mg 4 m__law_word) :=
  DL.Fun.okD (M1 := []) (k := 1) T.F__law_word sc__law_word (by decide) fun cdv A outer s H E hr =>
    have S := sc__law_word; have tk := @tkX P w K mg base n__law_word "_law_word" (defScope s__law_word) T.f__law_word cdv A outer s H E; have po := @poX P w K mg base n__law_word "_law_word" (defScope s__law_word) T.f__law_word cdv A outer s H E
    (dss_cons (ds_set rfl S.nd rfl (Or.inl rfl) (de_call (ok__law_drawn T) (hr.mono (by decide)) rfl T.m__law_drawn T.k__law_drawn T.bd__law_drawn tk (da_cons (de_var (pv 0) rfl) (da_cons (de_var (pv 1) rfl) da_nil)) (fun env ds h => by obtain ⟨_, r0, rfl, h0⟩ := aLen_cons h; obtain ⟨_, r1, rfl, h1⟩ := aLen_cons h0; cases h1; rfl))) (dss_cons (ds_set rfl S.nd rfl (Or.inl rfl) (de_join de_str (de_lc (own := [("j", 9)]) rfl S.nd (by decide) (DIS.of (di_range1 rfl T.b_range (de_mod (de_callTy call_int1 cb_int rfl T.b_int bt_int (da_consC (de_fdiv (de_var (pv 4) rfl) de_int) da_nil)) de_int))) (blkOk_by (N := n__law_word) (sc := (defScope s__law_word)) (by decide +kernel)) (fun _ _ _ _ _ => (dg_name (i := 9) S.nd rfl (Or.inl rfl))) (fun _ _ _ _ _ => dts_nil) (fun _ _ _ _ _ => (de_ix de_str (de_mod (de_callTy call_int1 cb_int rfl T.b_int bt_int (da_consC (de_call (ok__law_drawn T) (hr.mono (by decide)) rfl T.m__law_drawn T.k__law_drawn T.bd__law_drawn takes0 (da_cons (de_var (pv 0) rfl) (da_cons (de_add (de_add (de_var (pv 1) rfl) de_int) (de_var (pv 9) rfl)) da_nil)) (fun env ds h => by obtain ⟨_, r0, rfl, h0⟩ := aLen_cons h; obtain ⟨_, r1, rfl, h1⟩ := aLen_cons h0; cases h1; rfl)) da_nil)) de_int) (fun _ _ => rfl)))))) (dss_cons (ds_setLc (i := 6) rfl (own := [("number", 10), ("text", 7)]) rfl S.nd (by decide) (DIS.of (di_seq (de_var (pv 2) rfl))) (blkOk_by (N := n__law_word) (sc := (defScope s__law_word)) (by decide +kernel)) (fun _ _ _ _ _ => (dg_tup rfl (dgs_cons (dg_name (i := 10) S.nd rfl (Or.inl rfl)) (dgs_cons (dg_name (i := 7) S.nd rfl (Or.inl rfl)) dgs_nil)))) (fun _ _ _ _ _ => (dts_one (dt_ne hr.units (de_var (pv 7) rfl) de_str))) (fun _ _ _ _ _ => (de_var (pv 7) rfl))) (dss_freeze 6 rfl (dss_cons (ds_if rfl (dt_w (dw_and (dt_ne hr.units (de_var (pv 6) rfl) (de_list da_nil)) (dw_and1 (dt_gt (de_mod (de_callTy call_int1 cb_int rfl T.b_int bt_int (da_consC (de_var (pv 4) rfl) da_nil)) de_int) de_int)))) (dss_cons (ds_set rfl S.nd rfl (Or.inl rfl) (de_ix (de_var (pv 6) rfl) (de_mod (de_callTy call_int1 cb_int rfl T.b_int bt_int (da_consC (de_call (ok__law_drawn T) (hr.mono (by decide)) rfl T.m__law_drawn T.k__law_drawn T.bd__law_drawn tk (da_cons (de_var (pv 0) rfl) (da_cons (de_add (de_var (pv 1) rfl) de_int) da_nil)) (fun env ds h => by obtain ⟨_, r0, rfl, h0⟩ := aLen_cons h; obtain ⟨_, r1, rfl, h1⟩ := aLen_cons h0; cases h1; rfl)) da_nil)) (de_callB call_len cb_len rfl T.b_len bt_len (da_consC (de_var (pv 6) rfl) da_nil))) (fun _ _ => rfl))) (dss_cons (ds_set rfl S.nd rfl (Or.inl rfl) (de_mod (de_callTy call_int1 cb_int rfl T.b_int bt_int (da_consC (de_call (ok__law_drawn T) (hr.mono (by decide)) rfl T.m__law_drawn T.k__law_drawn T.bd__law_drawn tk (da_cons (de_var (pv 0) rfl) (da_cons (de_add (de_var (pv 1) rfl) de_int) da_nil)) (fun env ds h => by obtain ⟨_, r0, rfl, h0⟩ := aLen_cons h; obtain ⟨_, r1, rfl, h1⟩ := aLen_cons h0; cases h1; rfl)) da_nil)) (de_callB call_len cb_len rfl T.b_len bt_len (da_consC (de_var (pv 7) rfl) da_nil)))) (dss_cons (ds_set rfl S.nd rfl (Or.inl rfl) (de_sl (de_var (pv 7) rfl) (do_some (de_var (pv 8) rfl)) (do_some (de_add (de_add (de_var (pv 8) rfl) de_int) (de_mod (de_callTy call_int1 cb_int rfl T.b_int bt_int (da_consC (de_call (ok__law_drawn T) (hr.mono (by decide)) rfl T.m__law_drawn T.k__law_drawn T.bd__law_drawn tk (da_cons (de_var (pv 0) rfl) (da_cons (de_add (de_var (pv 1) rfl) de_int) da_nil)) (fun env ds h => by obtain ⟨_, r0, rfl, h0⟩ := aLen_cons h; obtain ⟨_, r1, rfl, h1⟩ := aLen_cons h0; cases h1; rfl)) da_nil)) (de_var (pv 3) rfl)))))) (dss_cons (ds_if rfl (dt_eq hr.units (de_mod (de_callTy call_int1 cb_int rfl T.b_int bt_int (da_consC (de_var (pv 4) rfl) da_nil)) de_int) de_int) (dss_one (ds_set rfl S.nd rfl (Or.inl rfl) (de_add (de_var (pv 5) rfl) (de_ix (de_list (da_cons de_str (da_cons de_str (da_cons de_str (da_cons (de_var (pv 5) rfl) da_nil))))) (de_mod (de_callTy call_int1 cb_int rfl T.b_int bt_int (da_consC (de_fdiv (de_var (pv 4) rfl) de_int) da_nil)) de_int) (fun _ _ => rfl))))) dss_nil) (dss_weakR (N := [.fz, .fz, .fz, .fz, .fz, .fz, .fz, .un, .un, .un, .un]) rfl dss_nil))))) dss_nil) (dss_one (ds_ret rfl rfl (de_sl (de_var (pv 5) rfl) do_none (do_some de_int)))))))))
set_option maxHeartbeats 4000000 in
theorem ok__law_alike (T : Txt K mg) : FnOk P w K mg base (L2.CX P w) 1 T.f__law_alike T.fd__law_alike p__law_alike (spD .pl mg 4 m__law_alike) :=
  DL.Fun.okD (M1 := []) (k := 0) T.F__law_alike sc__law_alike (by decide) fun cdv A outer s H E hr =>
    have S := sc__law_alike; have tk := @tkX P w K mg base n__law_alike "_law_alike" (defScope s__law_alike) T.f__law_alike cdv A outer s H E; have po := @poX P w K mg base n__law_alike "_law_alike" (defScope s__law_alike) T.f__law_alike cdv A outer s H E
    (dss_cons (ds_set rfl S.nd rfl (Or.inl rfl) de_int) (dss_cons (ds_while wfuel rfl po (dt_w (dw_and (dt_lt (de_add (de_var (pv 1) rfl) (de_var (pv 4) rfl)) (de_callB call_len cb_len rfl T.b_len bt_len (da_consC (de_var (pv 0) rfl) da_nil))) (dw_and (dt_lt (de_add (de_var (pv 3) rfl) (de_var (pv 4) rfl)) (de_callB call_len cb_len rfl T.b_len bt_len (da_consC (de_var (pv 2) rfl) da_nil))) (dw_and1 (dt_eq hr.units (de_ix (de_var (pv 0) rfl) (de_add (de_var (pv 1) rfl) (de_var (pv 4) rfl)) (fun _ _ => rfl)) (de_ix (de_var (pv 2) rfl) (de_add (de_var (pv 3) rfl) (de_var (pv 4) rfl)) (fun _ _ => rfl))))))) (dss_one (ds_set rfl S.nd rfl (Or.inl rfl) (de_add (de_var (pv 4) rfl) de_int)))) (dss_one (ds_ret rfl rfl (de_var (pv 4) rfl)))))
set_option maxHeartbeats 4000000 in
theorem ok__law_is_stretch (T : Txt K mg) : FnOk P w K mg base (L2.CX P w) 1 T.f__law_is_stretch T.fd__law_is_stretch p__law_is_stretch (spD .pl mg 2 m__law_is_stretch) :=
  DL.Fun.okD (M1 := []) (k := 0) T.F__law_is_stretch sc__law_is_stretch (by decide) fun cdv A outer s H E hr =>
    have S := sc__law_is_stretch; have tk := @tkX P w K mg base n__law_is_stretch "_law_is_stretch" (defScope s__law_is_stretch) T.f__law_is_stretch cdv A outer s H E; have po := @poX P w K mg base n__law_is_stretch "_law_is_stretch" (defScope s__law_is_stretch) T.f__law_is_stretch cdv A outer s H E
    (dss_cons (ds_for rfl po rfl (di_seq (de_var (pv 0) rfl)) (dg_tup rfl (dgs_cons (dg_name (i := 2) S.nd rfl (Or.inl rfl)) (dgs_cons (dg_name (i := 3) S.nd rfl (Or.inl rfl)) dgs_nil))) (dss_cons (ds_if rfl (dt_in (hr65 hr) (de_var (pv 1) rfl) (de_var (pv 3) rfl)) (dss_one (ds_ret rfl rfl de_bl)) dss_nil) (dss_weakR (N := [.fz, .fz, .un, .un]) rfl dss_nil))) (dss_one (ds_ret rfl rfl de_bl)))
set_option maxHeartbeats 4000000 in
theorem ok__law_pieces (T : Txt K mg) : FnOk P w K mg base (L2.CX P w) 2 T.f__law_pieces T.fd__law_pieces p__law_pieces (spD .fr mg 2 m__law_pieces) :=
  DL.Fun.okD (M1 := []) (k := 1) T.F__law_pieces sc__law_pieces (by decide) fun cdv A outer s H E hr =>
    have S := sc__law_pieces; have tk := @tkX P w K mg base n__law_pieces "_law_pieces" (defScope s__law_pieces) T.f__law_pieces cdv A outer s H E; have po := @poX P w K mg base n__law_pieces "_law_pieces" (defScope s__law_pieces) T.f__law_pieces cdv A outer s H E
    (dss_cons (ds_setO rfl S.nd rfl (Or.inl rfl) (de_list da_nil)) (dss_cons (ds_set rfl S.nd rfl (Or.inl rfl) de_int) (dss_cons (ds_while wfuel rfl po (dt_lt (de_var (pv 3) rfl) (de_callB call_len cb_len rfl T.b_len bt_len (da_consC (de_var (pv 1) rfl) da_nil))) (dss_cons (ds_set rfl S.nd rfl (Or.inl rfl) (de_tup (da_cons de_int (da_cons de_int (da_cons de_int da_nil))))) (dss_cons (ds_for rfl po rfl (di_seq (de_var (pv 0) rfl)) (dg_tup rfl (dgs_cons (dg_name (i := 5) S.nd rfl (Or.inl rfl)) (dgs_cons (dg_name (i := 6) S.nd rfl (Or.inl rfl)) dgs_nil))) (dss_cons (ds_for rfl po rfl (di_range1 rfl T.b_range (de_callB call_len cb_len rfl T.b_len bt_len (da_consC (de_var (pv 6) rfl) da_nil))) (dg_name (i := 7) S.nd rfl (Or.inl rfl)) (dss_cons (ds_if rfl (dt_gt (de_call (ok__law_alike T) (hr.mono (by decide)) rfl T.m__law_alike T.k__law_alike T.bd__law_alike tk (da_cons (de_var (pv 1) rfl) (da_cons (de_var (pv 3) rfl) (da_cons (de_var (pv 6) rfl) (da_cons (de_var (pv 7) rfl) da_nil)))) (fun env ds h => by obtain ⟨_, r0, rfl, h0⟩ := aLen_cons h; obtain ⟨_, r1, rfl, h1⟩ := aLen_cons h0; obtain ⟨_, r2, rfl, h2⟩ := aLen_cons h1; obtain ⟨_, r3, rfl, h3⟩ := aLen_cons h2; cases h3; rfl)) (de_ix (de_var (pv 4) rfl) de_int (fun _ _ => rfl))) (dss_one (ds_set rfl S.nd rfl (Or.inl rfl) (de_tup (da_cons (de_call (ok__law_alike T) (hr.mono (by decide)) rfl T.m__law_alike T.k__law_alike T.bd__law_alike tk (da_cons (de_var (pv 1) rfl) (da_cons (de_var (pv 3) rfl) (da_cons (de_var (pv 6) rfl) (da_cons (de_var (pv 7) rfl) da_nil)))) (fun env ds h => by obtain ⟨_, r0, rfl, h0⟩ := aLen_cons h; obtain ⟨_, r1, rfl, h1⟩ := aLen_cons h0; obtain ⟨_, r2, rfl, h2⟩ := aLen_cons h1; obtain ⟨_, r3, rfl, h3⟩ := aLen_cons h2; cases h3; rfl)) (da_cons (de_var (pv 5) rfl) (da_cons (de_var (pv 7) rfl) da_nil)))))) dss_nil) (dss_weakR (N := [.fz, .fz, .ow, .fz, .fz, .fz, .fz, .un]) rfl dss_nil))) (dss_weakR (N := [.fz, .fz, .ow, .fz, .fz, .un, .un, .un]) rfl dss_nil))) (dss_cons (ds_append rfl rfl (pv 2) (de_ix (de_list (da_cons (de_tup (da_cons de_str (da_cons (de_ix (de_var (pv 1) rfl) (de_var (pv 3) rfl) (fun _ _ => rfl)) da_nil))) (da_cons (de_tup (da_cons de_str (da_cons (de_ix (de_var (pv 4) rfl) de_int (fun _ _ => rfl)) (da_cons (de_ix (de_var (pv 4) rfl) de_int (fun _ _ => rfl)) (da_cons (de_ix (de_var (pv 4) rfl) de_int (fun _ _ => rfl)) da_nil))))) da_nil))) (de_callTy call_int1 cb_int rfl T.b_int bt_int (da_consC (de_gt (de_ix (de_var (pv 4) rfl) de_int (fun _ _ => rfl)) de_int) da_nil)) (fun _ _ => rfl))) (dss_cons (ds_set rfl S.nd rfl (Or.inl rfl) (de_add (de_var (pv 3) rfl) (de_callB (call_max2 rfl) cb_max rfl T.b_max bt_max (da_consC de_int (da_consC (de_ix (de_var (pv 4) rfl) de_int (fun _ _ => rfl)) da_nil))))) (dss_weakR (N := [.fz, .fz, .ow, .fz, .un, .un, .un, .un]) rfl dss_nil)))))) (dss_one (ds_retO (i := 2) rfl rfl (pv 2))))))
set_option maxHeartbeats 4000000 in
theorem ok__law_least (T : Txt K mg) : FnOk P w K mg base (L2.CX P w) 2 T.f__law_least T.fd__law_least p__law_least (spD .pl mg 2 m__law_least) :=
  DL.Fun.okD (M1 := []) (k := 1) T.F__law_least sc__law_least (by decide) fun cdv A outer s H E hr =>
    have S := sc__law_least; have tk := @tkX P w K mg base n__law_least "_law_least" (defScope s__law_least) T.f__law_least cdv A outer s H E; have po := @poX P w K mg base n__law_least "_law_least" (defScope s__law_least) T.f__law_least cdv A outer s H E
    (dss_cons (ds_setO rfl S.nd rfl (Or.inr rfl) (de_list (da_cons de_int da_nil))) (dss_cons (ds_for rfl po rfl (di_rangeG rfl T.b_range de_int (de_add (de_callB call_len cb_len rfl T.b_len bt_len (da_consC (de_var (pv 1) rfl) da_nil)) de_int)) (dg_name (i := 3) S.nd rfl (Or.inr rfl)) (dss_cons (ds_set rfl S.nd rfl (Or.inl rfl) (de_add (de_list (da_cons (de_add (de_ix (de_varO (pv 2) rfl) (de_sub (de_var (pv 3) rfl) de_int) (fun _ _ => rfl)) de_int) da_nil)) (de_lc (own := [("start", 5)]) rfl S.nd (by decide) (DIS.of (di_range1 rfl T.b_range (de_var (pv 3) rfl))) (blkOk_by (N := n__law_least) (sc := (defScope s__law_least)) (by decide +kernel)) (fun _ _ _ _ _ => (dg_name (i := 5) S.nd rfl (Or.inl rfl))) (fun _ _ _ _ _ => (dts_one (dt_val (de_call (ok__law_is_stretch T) (hr.mono (by decide)) rfl T.m__law_is_stretch T.k__law_is_stretch T.bd__law_is_stretch takes0 (da_cons (de_var (pv 0) rfl) (da_cons (de_sl (de_var (pv 1) rfl) (do_some (de_var (pv 5) rfl)) (do_some (de_var (pv 3) rfl))) da_nil)) (fun env ds h => by obtain ⟨_, r0, rfl, h0⟩ := aLen_cons h; obtain ⟨_, r1, rfl, h1⟩ := aLen_cons h0; cases h1; rfl))))) (fun _ _ _ _ _ => (de_add (de_ix (de_varO (pv 2) rfl) (de_var (pv 5) rfl) (fun _ _ => rfl)) de_int))))) (dss_cons (ds_append rfl rfl (pv 2) (de_callB (cr_min rfl) cb_minL rfl T.b_min bt_min (da_consC (de_var (pv 4) rfl) da_nil))) (dss_weakR (N := [.fz, .fz, .ow, .un, .un, .un]) rfl dss_nil)))) (dss_one (ds_ret rfl rfl (de_ix (de_varO (pv 2) rfl) (de_callB call_len cb_len rfl T.b_len bt_len (da_consC (de_var (pv 1) rfl) da_nil)) (fun _ _ => rfl))))))
set_option maxHeartbeats 4000000 in
theorem ok__law_due (T : Txt K mg) : FnOk P w K mg base (L2.CX P w) 2 T.f__law_due T.fd__law_due p__law_due (spD .pl mg 4 m__law_due) :=
  DL.Fun.okD (M1 := []) (k := 1) T.F__law_due sc__law_due (by decide) fun cdv A outer s H E hr =>
    have S := sc__law_due; have tk := @tkX P w K mg base n__law_due "_law_due" (defScope s__law_due) T.f__law_due cdv A outer s H E; have po := @poX P w K mg base n__law_due "_law_due" (defScope s__law_due) T.f__law_due cdv A outer s H E
    (dss_cons (ds_set rfl S.nd rfl (Or.inl rfl) de_str) (dss_cons (ds_for rfl po rfl (di_seq (de_var (pv 2) rfl)) (dg_name (i := 5) S.nd rfl (Or.inl rfl)) (dss_cons (ds_if rfl (dt_eq hr.units (de_ix (de_var (pv 5) rfl) de_int (fun _ _ => rfl)) de_str) (dss_one (ds_set rfl S.nd rfl (Or.inl rfl) (de_add (de_var (pv 4) rfl) (de_ix (de_var (pv 5) rfl) de_int (fun _ _ => rfl))))) (dss_cons (ds_asg rfl (de_sl (de_var (pv 5) rfl) (do_some de_int) do_none) (dg_tup rfl (dgs_cons (dg_name (i := 10) S.nd rfl (Or.inr rfl)) (dgs_cons (dg_name (i := 6) S.nd rfl (Or.inl rfl)) (dgs_cons (dg_name (i := 11) S.nd rfl (Or.inl rfl)) dgs_nil))))) (dss_cons (ds_set rfl S.nd rfl (Or.inl rfl) (DE.pl (de_lc (own := [("other", 12), ("text", 7)]) rfl S.nd (by decide) (DIS.of (di_seq (de_var (pv 0) rfl))) (blkOk_by (N := n__law_due) (sc := (defScope s__law_due)) (by decide +kernel)) (fun _ _ _ _ _ => (dg_tup rfl (dgs_cons (dg_name (i := 12) S.nd rfl (Or.inl rfl)) (dgs_cons (dg_name (i := 7) S.nd rfl (Or.inl rfl)) dgs_nil)))) (fun _ _ _ _ _ => (dts_one (dt_eq hr.units (de_var (pv 12) rfl) (de_var (pv 10) rfl)))) (fun _ _ _ _ _ => (de_var (pv 7) rfl))))) (dss_cons (ds_if rfl (dt_w (dw_or (dt_eq hr.units (de_var (pv 7) rfl) (de_list da_nil)) (dw_or (dt_lt (de_var (pv 11) rfl) de_int) (dw_or (dt_lt (de_var (pv 6) rfl) de_int) (dw_or1 (dt_gt (de_add (de_var (pv 6) rfl) (de_var (pv 11) rfl)) (de_callB call_len cb_len rfl T.b_len bt_len (da_consC (de_ix (de_var (pv 7) rfl) de_int (fun _ _ => rfl)) da_nil)))))))) (dss_one (ds_ret rfl rfl de_bl)) dss_nil) (dss_cons (ds_set rfl S.nd rfl (Or.inl rfl) (de_add (de_var (pv 4) rfl) (de_sl (de_ix (de_var (pv 7) rfl) de_int (fun _ _ => rfl)) (do_some (de_var (pv 6) rfl)) (do_some (de_add (de_var (pv 6) rfl) (de_var (pv 11) rfl)))))) (dss_weakR (N := [.fz, .fz, .fz, .fz, .fz, .fz, .un, .un, .un, .un, .un, .un, .un]) rfl dss_nil)))))) (dss_weakR (N := [.fz, .fz, .fz, .fz, .fz, .un, .un, .un, .un, .un, .un, .un, .un]) rfl dss_nil))) (dss_cons (ds_if rfl (dt_ne hr.units (de_var (pv 4) rfl) (de_var (pv 1) rfl)) (dss_one (ds_ret rfl rfl de_bl)) dss_nil) (dss_cons (ds_for rfl po rfl (di_range1 rfl T.b_range (de_callB call_len cb_len rfl T.b_len bt_len (da_consC (de_var (pv 3) rfl) da_nil))) (dg_name (i := 6) S.nd rfl (Or.inl rfl)) (dss_cons (ds_asg rfl (de_ix (de_var (pv 3) rfl) (de_var (pv 6) rfl) (fun _ _ => rfl)) (dg_tup rfl (dgs_cons (dg_name (i := 8) S.nd rfl (Or.inl rfl)) (dgs_cons (dg_name (i := 9) S.nd rfl (Or.inl rfl)) dgs_nil)))) (dss_cons (ds_if rfl (dt_w (dw_or (dt_not (dt_chain3 op_le op_lt op_lt b2_le b2_lt b2_lt de_int (de_var (pv 8) rfl) (de_var (pv 9) rfl) (de_callB call_len cb_len rfl T.b_len bt_len (da_consC (de_var (pv 1) rfl) da_nil)))) (dw_or1 (dt_val (de_call (ok__law_is_stretch T) (hr.mono (by decide)) rfl T.m__law_is_stretch T.k__law_is_stretch T.bd__law_is_stretch tk (da_cons (de_var (pv 0) rfl) (da_cons (de_sl (de_var (pv 1) rfl) (do_some (de_var (pv 8) rfl)) (do_some (de_add (de_var (pv 9) rfl) de_int))) da_nil)) (fun env ds h => by obtain ⟨_, r0, rfl, h0⟩ := aLen_cons h; obtain ⟨_, r1, rfl, h1⟩ := aLen_cons h0; cases h1; rfl)))))) (dss_one (ds_ret rfl rfl de_bl)) dss_nil) (dss_cons (ds_if rfl (dt_w (dw_and (dt_gt (de_var (pv 6) rfl) de_int) (dw_and1 (dt_w (dw_or (dt_geDD (hr65 hr) (de_ix (de_var (pv 3) rfl) (de_sub (de_var (pv 6) rfl) de_int) (fun _ _ => rfl)) (de_ix (de_var (pv 3) rfl) (de_var (pv 6) rfl) (fun _ _ => rfl))) (dw_or1 (dt_lt (de_var (pv 8) rfl) (de_ix (de_ix (de_var (pv 3) rfl) (de_sub (de_var (pv 6) rfl) de_int) (fun _ _ => rfl)) de_int (fun _ _ => rfl))))))))) (dss_one (ds_ret rfl rfl de_bl)) dss_nil) (dss_weakR (N := [.fz, .fz, .fz, .fz, .fz, .un, .un, .un, .un, .un, .un, .un, .un]) rfl dss_nil))))) (dss_one (ds_ret rfl rfl (de_eq hr.units (de_callB call_len cb_len rfl T.b_len bt_len (da_consC (de_var (pv 2) rfl) da_nil)) (de_add (de_callB call_len cb_len rfl T.b_len bt_len (da_consC (de_var (pv 3) rfl) da_nil)) (de_callTy call_int1 cb_int rfl T.b_int bt_int (da_consC (de_ne hr.units (de_var (pv 1) rfl) de_str) da_nil))))))))))
set_option maxHeartbeats 4000000 in
theorem ok__law_changed (T : Txt K mg) : FnOk P w K mg base (L2.CX P w) 2 T.f__law_changed T.fd__law_changed p__law_changed (spD .pl mg 4 m__law_changed) :=
  DL.Fun.okD (M1 := []) (k := 1) T.F__law_changed sc__law_changed (by decide) fun cdv A outer s H E hr =>
    have S := sc__law_changed; have tk := @tkX P w K mg base n__law_changed "_law_changed" (defScope s__law_changed) T.f__law_changed cdv A outer s H E; have po := @poX P w K mg base n__law_changed "_law_changed" (defScope s__law_changed) T.f__law_changed cdv A outer s H E
    (dss_cons (ds_set rfl S.nd rfl (Or.inl rfl) (de_call (ok__law_drawn T) (hr.mono (by decide)) rfl T.m__law_drawn T.k__law_drawn T.bd__law_drawn tk (da_cons (de_var (pv 0) rfl) (da_cons (de_var (pv 1) rfl) da_nil)) (fun env ds h => by obtain ⟨_, r0, rfl, h0⟩ := aLen_cons h; obtain ⟨_, r1, rfl, h1⟩ := aLen_cons h0; cases h1; rfl))) (dss_cons (ds_set rfl S.nd rfl (Or.inl rfl) (de_call (ok__law_drawn T) (hr.mono (by decide)) rfl T.m__law_drawn T.k__law_drawn T.bd__law_drawn tk (da_cons (de_var (pv 0) rfl) (da_cons (de_add (de_var (pv 1) rfl) de_int) da_nil)) (fun env ds h => by obtain ⟨_, r0, rfl, h0⟩ := aLen_cons h; obtain ⟨_, r1, rfl, h1⟩ := aLen_cons h0; cases h1; rfl))) (dss_cons (ds_set rfl S.nd rfl (Or.inl rfl) (de_mod (de_callTy call_int1 cb_int rfl T.b_int bt_int (da_consC (de_var (pv 4) rfl) da_nil)) de_int)) (dss_cons (ds_if rfl (dt_w (dw_and (dt_lt (de_var (pv 6) rfl) de_int) (dw_and1 (dt_ne hr.units (de_var (pv 3) rfl) (de_list da_nil))))) (dss_cons (ds_set rfl S.nd rfl (Or.inl rfl) (de_mod (de_callTy call_int1 cb_int rfl T.b_int bt_int (da_consC (de_var (pv 5) rfl) da_nil)) (de_callB call_len cb_len rfl T.b_len bt_len (da_consC (de_var (pv 3) rfl) da_nil)))) (dss_cons (ds_asg rfl (de_ix (de_var (pv 3) rfl) (de_var (pv 7) rfl) (fun _ _ => rfl)) (dg_tup rfl (dgs_cons (dg_name (i := 10) S.nd rfl (Or.inl rfl)) (dgs_cons (dg_name (i := 12) S.nd rfl (Or.inl rfl)) dgs_nil)))) (dss_cons (ds_set rfl S.nd rfl (Or.inl rfl) (DE.pl (de_list (da_cons (de_add (de_sl (de_var (pv 3) rfl) do_none (do_some (de_var (pv 7) rfl))) (de_sl (de_var (pv 3) rfl) (do_some (de_add (de_var (pv 7) rfl) de_int)) do_none)) (da_cons (de_add (de_add (de_sl (de_var (pv 3) rfl) do_none (do_some (de_var (pv 7) rfl))) (de_list (da_cons (de_ix (de_var (pv 3) rfl) (de_var (pv 7) rfl) (fun _ _ => rfl)) da_nil))) (de_sl (de_var (pv 3) rfl) (do_some (de_var (pv 7) rfl)) do_none)) (da_cons (de_add (de_add (de_sl (de_var (pv 3) rfl) do_none (do_some (de_var (pv 7) rfl))) (de_list (da_cons (de_tup (da_cons (de_add (de_var (pv 10) rfl) de_int) (da_cons (de_var (pv 12) rfl) da_nil))) da_nil))) (de_sl (de_var (pv 3) rfl) (do_some (de_add (de_var (pv 7) rfl) de_int)) do_none)) da_nil)))))) (dss_one (ds_ret rfl rfl (de_tup (da_cons (de_var (pv 2) rfl) (da_cons (de_ix (de_add (de_var (pv 8) rfl) (de_list (da_cons (de_add (de_add (de_sl (de_var (pv 3) rfl) do_none (do_some (de_var (pv 7) rfl))) (de_list (da_cons (de_tup (da_cons (de_var (pv 10) rfl) (da_cons (de_sub (de_var (pv 12) rfl) de_int) da_nil))) da_nil))) (de_sl (de_var (pv 3) rfl) (do_some (de_add (de_var (pv 7) rfl) de_int)) do_none)) da_nil))) (de_var (pv 6) rfl) (fun _ _ => rfl)) da_nil)))))))) dss_nil) (dss_cons (ds_if rfl (dt_w (dw_or (dt_eq hr.units (de_var (pv 2) rfl) (de_list da_nil)) (dw_or1 (dt_lt (de_var (pv 6) rfl) de_int)))) (dss_one (ds_ret rfl rfl (de_tup (da_cons (de_add (de_var (pv 2) rfl) (de_list (da_cons (de_tup (da_cons de_str (da_cons de_str da_nil))) da_nil))) (da_cons (de_var (pv 3) rfl) da_nil))))) dss_nil) (dss_cons (ds_set rfl S.nd rfl (Or.inl rfl) (de_mod (de_callTy call_int1 cb_int rfl T.b_int bt_int (da_consC (de_var (pv 5) rfl) da_nil)) (de_callB call_len cb_len rfl T.b_len bt_len (da_consC (de_var (pv 2) rfl) da_nil)))) (dss_cons (ds_if rfl (dt_eq hr.units (de_var (pv 6) rfl) de_int) (dss_one (ds_ret rfl rfl (de_tup (da_cons (de_add (de_sl (de_var (pv 2) rfl) do_none (do_some (de_var (pv 7) rfl))) (de_sl (de_var (pv 2) rfl) (do_some (de_add (de_var (pv 7) rfl) de_int)) do_none)) (da_cons (de_var (pv 3) rfl) da_nil))))) dss_nil) (dss_cons (ds_if rfl (dt_eq hr.units (de_ix (de_ix (de_var (pv 2) rfl) (de_var (pv 7) rfl) (fun _ _ => rfl)) de_int (fun _ _ => rfl)) de_str) (dss_one (ds_ret rfl rfl (de_tup (da_cons (de_add (de_add (de_sl (de_var (pv 2) rfl) do_none (do_some (de_var (pv 7) rfl))) (de_list (da_cons (de_tup (da_cons de_str (da_cons (de_ix de_str (de_mod (de_callTy call_int1 cb_int rfl T.b_int bt_int (da_consC (de_fdiv (de_var (pv 5) rfl) de_int) da_nil)) de_int) (fun _ _ => rfl)) da_nil))) da_nil))) (de_sl (de_var (pv 2) rfl) (do_some (de_add (de_var (pv 7) rfl) de_int)) do_none)) (da_cons (de_var (pv 3) rfl) da_nil))))) dss_nil) (dss_cons (ds_asg rfl (de_sl (de_ix (de_var (pv 2) rfl) (de_var (pv 7) rfl) (fun _ _ => rfl)) (do_some de_int) do_none) (dg_tup rfl (dgs_cons (dg_name (i := 9) S.nd rfl (Or.inl rfl)) (dgs_cons (dg_name (i := 10) S.nd rfl (Or.inl rfl)) (dgs_cons (dg_name (i := 11) S.nd rfl (Or.inl rfl)) dgs_nil))))) (dss_cons (ds_set rfl S.nd rfl (Or.inl rfl) (de_tup (da_cons de_str (da_cons (de_add (de_var (pv 9) rfl) (de_mod (de_callTy call_int1 cb_int rfl T.b_int bt_int (da_consC (de_fdiv (de_var (pv 5) rfl) de_int) da_nil)) de_int)) (da_cons (de_add (de_var (pv 10) rfl) (de_mod (de_callTy call_int1 cb_int rfl T.b_int bt_int (da_consC (de_fdiv (de_var (pv 5) rfl) de_int) da_nil)) de_int)) (da_cons (de_sub (de_var (pv 11) rfl) (de_mod (de_callTy call_int1 cb_int rfl T.b_int bt_int (da_consC (de_fdiv (de_var (pv 5) rfl) de_int) da_nil)) de_int)) da_nil)))))) (dss_one (ds_ret rfl rfl (de_tup (da_cons (de_add (de_add (de_sl (de_var (pv 2) rfl) do_none (do_some (de_var (pv 7) rfl))) (de_list (da_cons (de_var (pv 8) rfl) da_nil))) (de_sl (de_var (pv 2) rfl) (do_some (de_add (de_var (pv 7) rfl) de_int)) do_none)) (da_cons (de_var (pv 3) rfl) da_nil)))))))))))))))
set_option maxHeartbeats 4000000 in
theorem body_law (T : Txt K mg) (fa : Addr) : ∀ (base : Heap) (cdv : Value) (s : Shared) (H : Hp), K.In base → base.Ns mainGlobals mg →
    DSs (cxOf (L2.CX P w) P w K mg base n_law "law" (defScope s_law) fa cdv callerA [] s H fun _ _ _ => False) ⟨wE fun _ _ _ => False, mg, none⟩ ⟨[], [], .pl⟩ (mode0 n_law.length 1) [] (defBody s_law) o_law := fun base cdv s H _ _ =>
    have hr0 : Room 5 callerA := ⟨rfl, by decide, by decide⟩; have hr := hr0.deeper (PyProof.Rows.envOfC "law" (defScope s_law) s.heap.objs.size fa cdv)
    have S := sc_law; have tk := @tkX P w K mg base n_law "law" (defScope s_law) fa cdv callerA [] s H (fun _ _ _ => False); have po := @poX P w K mg base n_law "law" (defScope s_law) fa cdv callerA [] s H (fun _ _ _ => False)
    (dss_cons (ds_set rfl S.nd rfl (Or.inl rfl) (DE.pl (de_call (ok__law_numbers T) (hr.mono (by decide)) rfl T.m__law_numbers T.k__law_numbers T.bd__law_numbers tk (da_cons (de_var (pv 0) rfl) (da_cons de_int da_nil)) (fun env ds h => by obtain ⟨_, r0, rfl, h0⟩ := aLen_cons h; obtain ⟨_, r1, rfl, h1⟩ := aLen_cons h0; cases h1; rfl)))) (dss_cons (ds_set rfl S.nd rfl (Or.inl rfl) (de_mod (de_callTy call_int1 cb_int rfl T.b_int bt_int (da_consC (de_ix (de_var (pv 1) rfl) de_int (fun _ _ => rfl)) da_nil)) de_int)) (dss_cons (ds_set rfl S.nd rfl (Or.inl rfl) (DE.pl (de_call (ok__law_house T) (hr.mono (by decide)) rfl T.m__law_house T.k__law_house T.bd__law_house tk (da_cons (de_var (pv 1) rfl) (da_cons de_int (da_cons (de_ix (de_list (da_cons de_int (da_cons de_int (da_cons de_int (da_cons de_int (da_cons de_int (da_cons de_int da_nil))))))) (de_var (pv 2) rfl) (fun _ _ => rfl)) (da_cons (de_ix (de_list (da_cons de_int (da_cons de_int (da_cons de_int (da_cons de_int (da_cons de_int (da_cons de_int da_nil))))))) (de_var (pv 2) rfl) (fun _ _ => rfl)) da_nil)))) (fun env ds h => by obtain ⟨_, r0, rfl, h0⟩ := aLen_cons h; obtain ⟨_, r1, rfl, h1⟩ := aLen_cons h0; obtain ⟨_, r2, rfl, h2⟩ := aLen_cons h1; obtain ⟨_, r3, rfl, h3⟩ := aLen_cons h2; cases h3; rfl)))) (dss_cons (ds_set rfl S.nd rfl (Or.inl rfl) (de_callB (call_reprD rfl (hr66 hr)) cb_repr rfl T.b_repr bt_repr (da_consC (de_var (pv 3) rfl) da_nil))) (dss_cons (ds_for rfl po rfl (di_range1 rfl T.b_range de_int) (dg_name (i := 5) S.nd rfl (Or.inl rfl)) (dss_cons (ds_set rfl S.nd rfl (Or.inl rfl) de_str) (dss_cons (ds_for rfl po rfl (di_range1 rfl T.b_range (de_mod (de_callTy call_int1 cb_int rfl T.b_int bt_int (da_consC (de_call (ok__law_drawn T) (hr.mono (by decide)) rfl T.m__law_drawn T.k__law_drawn T.bd__law_drawn tk (da_cons (de_var (pv 1) rfl) (da_cons (de_add de_int (de_var (pv 5) rfl)) da_nil)) (fun env ds h => by obtain ⟨_, r0, rfl, h0⟩ := aLen_cons h; obtain ⟨_, r1, rfl, h1⟩ := aLen_cons h0; cases h1; rfl)) da_nil)) de_int)) (dg_name (i := 7) S.nd rfl (Or.inl rfl)) (dss_cons (ds_set rfl S.nd rfl (Or.inl rfl) (de_add (de_var (pv 6) rfl) (de_call (ok__law_word T) (hr.mono (by decide)) rfl T.m__law_word T.k__law_word T.bd__law_word tk (da_cons (de_var (pv 1) rfl) (da_cons (de_add (de_add de_int (de_mul de_int (de_var (pv 5) rfl))) (de_mul de_int (de_var (pv 7) rfl))) (da_cons (de_var (pv 3) rfl) (da_cons (de_ix (de_list (da_cons de_int (da_cons de_int da_nil))) (de_callTy call_int1 cb_int rfl T.b_int bt_int (da_consC (de_eq hr.units (de_var (pv 2) rfl) de_int) da_nil)) (fun _ _ => rfl)) da_nil)))) (fun env ds h => by obtain ⟨_, r0, rfl, h0⟩ := aLen_cons h; obtain ⟨_, r1, rfl, h1⟩ := aLen_cons h0; obtain ⟨_, r2, rfl, h2⟩ := aLen_cons h1; obtain ⟨_, r3, rfl, h3⟩ := aLen_cons h2; cases h3; rfl)))) (dss_weakR (N := [.fz, .fz, .fz, .fz, .fz, .fz, .fz, .un, .un, .un, .un, .un, .un, .un, .un, .un, .un]) rfl dss_nil))) (dss_cons (ds_set rfl S.nd rfl (Or.inl rfl) (de_sl (de_var (pv 6) rfl) do_none (do_some de_int))) (dss_cons (ds_set rfl S.nd rfl (Or.inl rfl) (DE.pl (de_call (ok__law_pieces T) (hr.mono (by decide)) rfl T.m__law_pieces T.k__law_pieces T.bd__law_pieces tk (da_cons (de_var (pv 3) rfl) (da_cons (de_var (pv 6) rfl) da_nil)) (fun env ds h => by obtain ⟨_, r0, rfl, h0⟩ := aLen_cons h; obtain ⟨_, r1, rfl, h1⟩ := aLen_cons h0; cases h1; rfl)))) (dss_cons (ds_setO rfl S.nd rfl (Or.inl rfl) (de_call (ok_cut_word T) (hr.mono (by decide)) rfl T.m_cut_word T.k_cut_word T.bd_cut_word tk (da_cons (de_var (pv 3) rfl) (da_cons (de_var (pv 6) rfl) da_nil)) (fun env ds h => by obtain ⟨_, r0, rfl, h0⟩ := aLen_cons h; obtain ⟨_, r1, rfl, h1⟩ := aLen_cons h0; cases h1; rfl))) (dss_cons (ds_set rfl S.nd rfl (Or.inl rfl) (de_call (ok_word_windows T) (hr.mono (by decide)) rfl T.m_word_windows T.k_word_windows T.bd_word_windows tk (da_cons (de_var (pv 3) rfl) (da_cons (de_var (pv 6) rfl) da_nil)) (fun env ds h => by obtain ⟨_, r0, rfl, h0⟩ := aLen_cons h; obtain ⟨_, r1, rfl, h1⟩ := aLen_cons h0; cases h1; rfl))) (dss_cons (ds_if rfl (dt_w (dw_or (dt_not (dt_val (de_isi rfl T.b_isinstance bt_isinstance (de_varO (pv 9) rfl) (pe_bltn rfl T.b_list bt_list rfl)))) (dw_or (dt_ne hr.units (de_callB (call_reprD rfl (hr66 hr)) cb_repr rfl T.b_repr bt_repr (da_consC (de_varO (pv 9) rfl) da_nil)) (de_callB (call_reprD rfl (hr66 hr)) cb_repr rfl T.b_repr bt_repr (da_consC (de_var (pv 8) rfl) da_nil))) (dw_or (dt_ne hr.units (de_callB (call_reprD rfl (hr66 hr)) cb_repr rfl T.b_repr bt_repr (da_consC (de_var (pv 3) rfl) da_nil)) (de_var (pv 4) rfl)) (dw_or1 (dt_ne hr.units (de_callB call_len cb_len rfl T.b_len bt_len (da_consC (de_var (pv 8) rfl) da_nil)) (de_call (ok__law_least T) (hr.mono (by decide)) rfl T.m__law_least T.k__law_least T.bd__law_least tk (da_cons (de_var (pv 3) rfl) (da_cons (de_var (pv 6) rfl) da_nil)) (fun env ds h => by obtain ⟨_, r0, rfl, h0⟩ := aLen_cons h; obtain ⟨_, r1, rfl, h1⟩ := aLen_cons h0; cases h1; rfl)))))))) (dss_one (ds_ret rfl rfl de_bl)) dss_nil) (dss_cons (ds_if rfl (dt_w (dw_or (dt_not (dt_val (de_isi rfl T.b_isinstance bt_isinstance (de_var (pv 10) rfl) (pe_bltn rfl T.b_list bt_list rfl)))) (dw_or1 (dt_not (dt_val (de_call (ok__law_due T) (hr.mono (by decide)) rfl T.m__law_due T.k__law_due T.bd__law_due tk (da_cons (de_var (pv 3) rfl) (da_cons (de_var (pv 6) rfl) (da_cons (de_var (pv 8) rfl) (da_cons (de_var (pv 10) rfl) da_nil)))) (fun env ds h => by obtain ⟨_, r0, rfl, h0⟩ := aLen_cons h; obtain ⟨_, r1, rfl, h1⟩ := aLen_cons h0; obtain ⟨_, r2, rfl, h2⟩ := aLen_cons h1; obtain ⟨_, r3, rfl, h3⟩ := aLen_cons h2; cases h3; rfl))))))) (dss_one (ds_ret rfl rfl de_bl)) dss_nil) (dss_cons (ds_append rfl rfl (pv 9) de_int) (dss_cons (ds_setO rfl S.nd rfl (Or.inl rfl) (de_list (da_cons (de_tup (da_cons (de_var (pv 8) rfl) (da_cons (de_var (pv 10) rfl) da_nil))) (da_cons (de_tup (da_cons (de_var (pv 8) rfl) (da_cons (DE.pl (de_list da_nil)) da_nil))) da_nil)))) (dss_cons (ds_for rfl po rfl (di_range1 rfl T.b_range de_int) (dg_name (i := 12) S.nd rfl (Or.inl rfl)) (dss_cons (ds_asg rfl (de_ix (de_list (da_cons (de_ix (de_varO (pv 11) rfl) de_int (fun _ _ => rfl)) (da_cons (de_ix (de_varO (pv 11) rfl) (de_neg de_int) (fun _ _ => rfl)) da_nil))) (de_mod (de_callTy call_int1 cb_int rfl T.b_int bt_int (da_consC (de_var (pv 12) rfl) da_nil)) de_int) (fun _ _ => rfl)) (dg_tup rfl (dgs_cons (dg_name (i := 13) S.nd rfl (Or.inl rfl)) (dgs_cons (dg_name (i := 14) S.nd rfl (Or.inl rfl)) dgs_nil)))) (dss_cons (ds_append rfl rfl (pv 11) (de_call (ok__law_changed T) (hr.mono (by decide)) rfl T.m__law_changed T.k__law_changed T.bd__law_changed tk (da_cons (de_var (pv 1) rfl) (da_cons (de_add (de_add de_int (de_mul de_int (de_var (pv 12) rfl))) (de_mul de_int (de_var (pv 5) rfl))) (da_cons (de_var (pv 13) rfl) (da_cons (de_var (pv 14) rfl) da_nil)))) (fun env ds h => by obtain ⟨_, r0, rfl, h0⟩ := aLen_cons h; obtain ⟨_, r1, rfl, h1⟩ := aLen_cons h0; obtain ⟨_, r2, rfl, h2⟩ := aLen_cons h1; obtain ⟨_, r3, rfl, h3⟩ := aLen_cons h2; cases h3; rfl))) (dss_weakR (N := [.fz, .fz, .fz, .fz, .fz, .fz, .fz, .un, .fz, .ow, .fz, .ow, .un, .un, .un, .un, .un]) rfl dss_nil)))) (dss_freeze 11 rfl (dss_cons (ds_for rfl po rfl (di_seq (de_var (pv 11) rfl)) (dg_tup rfl (dgs_cons (dg_name (i := 13) S.nd rfl (Or.inl rfl)) (dgs_cons (dg_name (i := 14) S.nd rfl (Or.inl rfl)) dgs_nil))) (dss_cons (ds_set rfl S.nd rfl (Or.inl rfl) (de_callB (call_reprD rfl (hr66 hr)) cb_repr rfl T.b_repr bt_repr (da_consC (de_tup (da_cons (de_var (pv 13) rfl) (da_cons (de_var (pv 14) rfl) da_nil))) da_nil))) (dss_cons (ds_set rfl S.nd rfl (Or.inl rfl) (de_call (ok_check_word T) (hr.mono (by decide)) rfl T.m_check_word T.k_check_word T.bd_check_word tk (da_cons (de_var (pv 3) rfl) (da_cons (de_var (pv 6) rfl) (da_cons (de_var (pv 13) rfl) (da_cons (de_var (pv 14) rfl) da_nil)))) (fun env ds h => by obtain ⟨_, r0, rfl, h0⟩ := aLen_cons h; obtain ⟨_, r1, rfl, h1⟩ := aLen_cons h0; obtain ⟨_, r2, rfl, h2⟩ := aLen_cons h1; obtain ⟨_, r3, rfl, h3⟩ := aLen_cons h2; cases h3; rfl))) (dss_cons (ds_if rfl (dt_w (dw_or (dt_ne hr.units (de_callB (call_reprD rfl (hr66 hr)) cb_repr rfl T.b_repr bt_repr (da_consC (de_var (pv 16) rfl) da_nil)) (de_callB (call_reprD rfl (hr66 hr)) cb_repr rfl T.b_repr bt_repr (da_consC (de_call (ok__law_due T) (hr.mono (by decide)) rfl T.m__law_due T.k__law_due T.bd__law_due tk (da_cons (de_var (pv 3) rfl) (da_cons (de_var (pv 6) rfl) (da_cons (de_var (pv 13) rfl) (da_cons (de_var (pv 14) rfl) da_nil)))) (fun env ds h => by obtain ⟨_, r0, rfl, h0⟩ := aLen_cons h; obtain ⟨_, r1, rfl, h1⟩ := aLen_cons h0; obtain ⟨_, r2, rfl, h2⟩ := aLen_cons h1; obtain ⟨_, r3, rfl, h3⟩ := aLen_cons h2; cases h3; rfl)) da_nil))) (dw_or1 (dt_ne hr.units (de_callB (call_reprD rfl (hr66 hr)) cb_repr rfl T.b_repr bt_repr (da_consC (de_tup (da_cons (de_var (pv 13) rfl) (da_cons (de_var (pv 14) rfl) da_nil))) da_nil)) (de_var (pv 15) rfl))))) (dss_one (ds_ret rfl rfl de_bl)) dss_nil) (dss_weakR (N := [.fz, .fz, .fz, .fz, .fz, .fz, .fz, .un, .fz, .ow, .fz, .fz, .un, .un, .un, .un, .un]) rfl dss_nil))))) (dss_cons (ds_if rfl (dt_ne hr.units (de_callB (call_reprD rfl (hr66 hr)) cb_repr rfl T.b_repr bt_repr (da_consC (de_call (ok_cut_word T) (hr.mono (by decide)) rfl T.m_cut_word T.k_cut_word T.bd_cut_word tk (da_cons (de_var (pv 3) rfl) (da_cons (de_var (pv 6) rfl) da_nil)) (fun env ds h => by obtain ⟨_, r0, rfl, h0⟩ := aLen_cons h; obtain ⟨_, r1, rfl, h1⟩ := aLen_cons h0; cases h1; rfl)) da_nil)) (de_callB (call_reprD rfl (hr66 hr)) cb_repr rfl T.b_repr bt_repr (da_consC (de_var (pv 8) rfl) da_nil))) (dss_one (ds_ret rfl rfl de_bl)) dss_nil) (dss_weakR (N := [.fz, .fz, .fz, .fz, .fz, .un, .un, .un, .un, .un, .un, .un, .un, .un, .un, .un, .un]) rfl dss_nil)))))))))))))))) (dss_one (ds_ret rfl rfl (de_eq hr.units (de_callB (call_reprD rfl (hr66 hr)) cb_repr rfl T.b_repr bt_repr (da_consC (de_var (pv 3) rfl) da_nil)) (de_var (pv 4) rfl)))))))))
end
theorem all_mk {P : Program} {w : World} {K : PySem.W.Frag} {h : Heap} {mg : Str → Option Value} {fa : Addr} {f_alike : Addr} {od_alike an_alike : Option Addr} {sl_alike : Array (Option Value)} {oc_alike kV_alike dc_alike pm_alike cd_alike ct_alike : Value} {f_size_of : Addr} {od_size_of an_size_of : Option Addr} {sl_size_of : Array (Option Value)} {oc_size_of kV_size_of dc_size_of pm_size_of cd_size_of ct_size_of : Value} {f_longest_stretch : Addr} {od_longest_stretch an_longest_stretch : Option Addr} {sl_longest_stretch : Array (Option Value)} {oc_longest_stretch kV_longest_stretch dc_longest_stretch pm_longest_stretch cd_longest_stretch ct_longest_stretch : Value} {f_cut_word : Addr} {od_cut_word an_cut_word : Option Addr} {sl_cut_word : Array (Option Value)} {oc_cut_word kV_cut_word dc_cut_word pm_cut_word cd_cut_word ct_cut_word : Value} {f_places : Addr} {od_places an_places : Option Addr} {sl_places : Array (Option Value)} {oc_places kV_places dc_places pm_places cd_places ct_places : Value} {f_told_windows : Addr} {od_told_windows an_told_windows : Option Addr} {sl_told_windows : Array (Option Value)} {oc_told_windows kV_told_windows dc_told_windows pm_told_windows cd_told_windows ct_told_windows : Value} {f_are_apart : Addr} {od_are_apart an_are_apart : Option Addr} {sl_are_apart : Array (Option Value)} {oc_are_apart kV_are_apart dc_are_apart pm_are_apart cd_are_apart ct_are_apart : Value} {f_word_windows : Addr} {od_word_windows an_word_windows : Option Addr} {sl_word_windows : Array (Option Value)} {oc_word_windows kV_word_windows dc_word_windows pm_word_windows cd_word_windows ct_word_windows : Value} {f_are_pieces_of : Addr} {od_are_pieces_of an_are_pieces_of : Option Addr} {sl_are_pieces_of : Array (Option Value)} {oc_are_pieces_of kV_are_pieces_of dc_are_pieces_of pm_are_pieces_of cd_are_pieces_of ct_are_pieces_of : Value} {f_check_word : Addr} {od_check_word an_check_word : Option Addr} {sl_check_word : Array (Option Value)} {oc_check_word kV_check_word dc_check_word pm_check_word cd_check_word ct_check_word : Value} {f__law_numbers : Addr} {od__law_numbers an__law_numbers : Option Addr} {sl__law_numbers : Array (Option Value)} {oc__law_numbers kV__law_numbers dc__law_numbers pm__law_numbers cd__law_numbers ct__law_numbers : Value} {f__law_drawn : Addr} {od__law_drawn an__law_drawn : Option Addr} {sl__law_drawn : Array (Option Value)} {oc__law_drawn kV__law_drawn dc__law_drawn pm__law_drawn cd__law_drawn ct__law_drawn : Value} {f__law_signs : Addr} {od__law_signs an__law_signs : Option Addr} {sl__law_signs : Array (Option Value)} {oc__law_signs kV__law_signs dc__law_signs pm__law_signs cd__law_signs ct__law_signs : Value} {f__law_text : Addr} {od__law_text an__law_text : Option Addr} {sl__law_text : Array (Option Value)} {oc__law_text kV__law_text dc__law_text pm__law_text cd__law_text ct__law_text : Value} {f__law_house : Addr} {od__law_house an__law_house : Option Addr} {sl__law_house : Array (Option Value)} {oc__law_house kV__law_house dc__law_house pm__law_house cd__law_house ct__law_house : Value} {f__law_word : Addr} {od__law_word an__law_word : Option Addr} {sl__law_word : Array (Option Value)} {oc__law_word kV__law_word dc__law_word pm__law_word cd__law_word ct__law_word : Value} {f__law_alike : Addr} {od__law_alike an__law_alike : Option Addr} {sl__law_alike : Array (Option Value)} {oc__law_alike kV__law_alike dc__law_alike pm__law_alike cd__law_alike ct__law_alike : Value} {f__law_is_stretch : Addr} {od__law_is_stretch an__law_is_stretch : Option Addr} {sl__law_is_stretch : Array (Option Value)} {oc__law_is_stretch kV__law_is_stretch dc__law_is_stretch pm__law_is_stretch cd__law_is_stretch ct__law_is_stretch : Value} {f__law_pieces : Addr} {od__law_pieces an__law_pieces : Option Addr} {sl__law_pieces : Array (Option Value)} {oc__law_pieces kV__law_pieces dc__law_pieces pm__law_pieces cd__law_pieces ct__law_pieces : Value} {f__law_least : Addr} {od__law_least an__law_least : Option Addr} {sl__law_least : Array (Option Value)} {oc__law_least kV__law_least dc__law_least pm__law_least cd__law_least ct__law_least : Value} {f__law_due : Addr} {od__law_due an__law_due : Option Addr} {sl__law_due : Array (Option Value)} {oc__law_due kV__law_due dc__law_due pm__law_due cd__law_due ct__law_due : Value} {f__law_changed : Addr} {od__law_changed an__law_changed : Option Addr} {sl__law_changed : Array (Option Value)} {oc__law_changed kV__law_changed dc__law_changed pm__law_changed cd__law_changed ct__law_changed : Value} {f_law : Addr} {od_law an_law : Option Addr} {sl_law : Array (Option Value)} {oc_law kV_law dc_law pm_law cd_law ct_law : Value} (X : K.In h) (G : h.Ns mainGlobals mg) (hfa : mg "law" = some (.ref fa))
    (a_alike : PySem.W.nsIn K mainGlobals "alike" = some (some (.ref f_alike)))
    (l_alike : K.lookup f_alike = some ⟨oc_alike, od_alike, .func (PySem.W.fnOf "alike" "alike" (defArgs s_alike) (defBody s_alike) (defScope s_alike) .none kV_alike dc_alike pm_alike an_alike cd_alike ct_alike), sl_alike⟩)
    (c_alike : PySem.W.codeIn K cd_alike "alike" = true)
    (k_alike : PySem.W.keepIn K (.ref f_alike) = true)
    (a_size_of : PySem.W.nsIn K mainGlobals "size_of" = some (some (.ref f_size_of)))
    (l_size_of : K.lookup f_size_of = some ⟨oc_size_of, od_size_of, .func (PySem.W.fnOf "size_of" "size_of" (defArgs s_size_of) (defBody s_size_of) (defScope s_size_of) .none kV_size_of dc_size_of pm_size_of an_size_of cd_size_of ct_size_of), sl_size_of⟩)
    (c_size_of : PySem.W.codeIn K cd_size_of "size_of" = true)
    (k_size_of : PySem.W.keepIn K (.ref f_size_of) = true)
    (a_longest_stretch : PySem.W.nsIn K mainGlobals "longest_stretch" = some (some (.ref f_longest_stretch)))
    (l_longest_stretch : K.lookup f_longest_stretch = some ⟨oc_longest_stretch, od_longest_stretch, .func (PySem.W.fnOf "longest_stretch" "longest_stretch" (defArgs s_longest_stretch) (defBody s_longest_stretch) (defScope s_longest_stretch) .none kV_longest_stretch dc_longest_stretch pm_longest_stretch an_longest_stretch cd_longest_stretch ct_longest_stretch), sl_longest_stretch⟩)
    (c_longest_stretch : PySem.W.codeIn K cd_longest_stretch "longest_stretch" = true)
    (k_longest_stretch : PySem.W.keepIn K (.ref f_longest_stretch) = true)
    (a_cut_word : PySem.W.nsIn K mainGlobals "cut_word" = some (some (.ref f_cut_word)))
    (l_cut_word : K.lookup f_cut_word = some ⟨oc_cut_word, od_cut_word, .func (PySem.W.fnOf "cut_word" "cut_word" (defArgs s_cut_word) (defBody s_cut_word) (defScope s_cut_word) .none kV_cut_word dc_cut_word pm_cut_word an_cut_word cd_cut_word ct_cut_word), sl_cut_word⟩)
    (c_cut_word : PySem.W.codeIn K cd_cut_word "cut_word" = true)
    (k_cut_word : PySem.W.keepIn K (.ref f_cut_word) = true)
    (a_places : PySem.W.nsIn K mainGlobals "places" = some (some (.ref f_places)))
    (l_places : K.lookup f_places = some ⟨oc_places, od_places, .func (PySem.W.fnOf "places" "places" (defArgs s_places) (defBody s_places) (defScope s_places) .none kV_places dc_places pm_places an_places cd_places ct_places), sl_places⟩)
    (c_places : PySem.W.codeIn K cd_places "places" = true)
    (k_places : PySem.W.keepIn K (.ref f_places) = true)
    (a_told_windows : PySem.W.nsIn K mainGlobals "told_windows" = some (some (.ref f_told_windows)))
    (l_told_windows : K.lookup f_told_windows = some ⟨oc_told_windows, od_told_windows, .func (PySem.W.fnOf "told_windows" "told_windows" (defArgs s_told_windows) (defBody s_told_windows) (defScope s_told_windows) .none kV_told_windows dc_told_windows pm_told_windows an_told_windows cd_told_windows ct_told_windows), sl_told_windows⟩)
    (c_told_windows : PySem.W.codeIn K cd_told_windows "told_windows" = true)
    (k_told_windows : PySem.W.keepIn K (.ref f_told_windows) = true)
    (a_are_apart : PySem.W.nsIn K mainGlobals "are_apart" = some (some (.ref f_are_apart)))
    (l_are_apart : K.lookup f_are_apart = some ⟨oc_are_apart, od_are_apart, .func (PySem.W.fnOf "are_apart" "are_apart" (defArgs s_are_apart) (defBody s_are_apart) (defScope s_are_apart) .none kV_are_apart dc_are_apart pm_are_apart an_are_apart cd_are_apart ct_are_apart), sl_are_apart⟩)
    (c_are_apart : PySem.W.codeIn K cd_are_apart "are_apart" = true)
    (k_are_apart : PySem.W.keepIn K (.ref f_are_apart) = true)
    (a_word_windows : PySem.W.nsIn K mainGlobals "word_windows" = some (some (.ref f_word_windows)))
    (l_word_windows : K.lookup f_word_windows = some ⟨oc_word_windows, od_word_windows, .func (PySem.W.fnOf "word_windows" "word_windows" (defArgs s_word_windows) (defBody s_word_windows) (defScope s_word_windows) .none kV_word_windows dc_word_windows pm_word_windows an_word_windows cd_word_windows ct_word_windows), sl_word_windows⟩)
    (c_word_windows : PySem.W.codeIn K cd_word_windows "word_windows" = true)
    (k_word_windows : PySem.W.keepIn K (.ref f_word_windows) = true)
    (a_are_pieces_of : PySem.W.nsIn K mainGlobals "are_pieces_of" = some (some (.ref f_are_pieces_of)))
    (l_are_pieces_of : K.lookup f_are_pieces_of = some ⟨oc_are_pieces_of, od_are_pieces_of, .func (PySem.W.fnOf "are_pieces_of" "are_pieces_of" (defArgs s_are_pieces_of) (defBody s_are_pieces_of) (defScope s_are_pieces_of) .none kV_are_pieces_of dc_are_pieces_of pm_are_pieces_of an_are_pieces_of cd_are_pieces_of ct_are_pieces_of), sl_are_pieces_of⟩)
    (c_are_pieces_of : PySem.W.codeIn K cd_are_pieces_of "are_pieces_of" = true)
    (k_are_pieces_of : PySem.W.keepIn K (.ref f_are_pieces_of) = true)
    (a_check_word : PySem.W.nsIn K mainGlobals "check_word" = some (some (.ref f_check_word)))
    (l_check_word : K.lookup f_check_word = some ⟨oc_check_word, od_check_word, .func (PySem.W.fnOf "check_word" "check_word" (defArgs s_check_word) (defBody s_check_word) (defScope s_check_word) .none kV_check_word dc_check_word pm_check_word an_check_word cd_check_word ct_check_word), sl_check_word⟩)
    (c_check_word : PySem.W.codeIn K cd_check_word "check_word" = true)
    (k_check_word : PySem.W.keepIn K (.ref f_check_word) = true)
    (a__law_numbers : PySem.W.nsIn K mainGlobals "_law_numbers" = some (some (.ref f__law_numbers)))
    (l__law_numbers : K.lookup f__law_numbers = some ⟨oc__law_numbers, od__law_numbers, .func (PySem.W.fnOf "_law_numbers" "_law_numbers" (defArgs s__law_numbers) (defBody s__law_numbers) (defScope s__law_numbers) .none kV__law_numbers dc__law_numbers pm__law_numbers an__law_numbers cd__law_numbers ct__law_numbers), sl__law_numbers⟩)
    (c__law_numbers : PySem.W.codeIn K cd__law_numbers "_law_numbers" = true)
    (k__law_numbers : PySem.W.keepIn K (.ref f__law_numbers) = true)
    (a__law_drawn : PySem.W.nsIn K mainGlobals "_law_drawn" = some (some (.ref f__law_drawn)))
    (l__law_drawn : K.lookup f__law_drawn = some ⟨oc__law_drawn, od__law_drawn, .func (PySem.W.fnOf "_law_drawn" "_law_drawn" (defArgs s__law_drawn) (defBody s__law_drawn) (defScope s__law_drawn) .none kV__law_drawn dc__law_drawn pm__law_drawn an__law_drawn cd__law_drawn ct__law_drawn), sl__law_drawn⟩)
    (c__law_drawn : PySem.W.codeIn K cd__law_drawn "_law_drawn" = true)
    (k__law_drawn : PySem.W.keepIn K (.ref f__law_drawn) = true)
    (a__law_signs : PySem.W.nsIn K mainGlobals "_law_signs" = some (some (.ref f__law_signs)))
    (l__law_signs : K.lookup f__law_signs = some ⟨oc__law_signs, od__law_signs, .func (PySem.W.fnOf "_law_signs" "_law_signs" (defArgs s__law_signs) (defBody s__law_signs) (defScope s__law_signs) .none kV__law_signs dc__law_signs pm__law_signs an__law_signs cd__law_signs ct__law_signs), sl__law_signs⟩)
    (c__law_signs : PySem.W.codeIn K cd__law_signs "_law_signs" = true)
    (k__law_signs : PySem.W.keepIn K (.ref f__law_signs) = true)
    (a__law_text : PySem.W.nsIn K mainGlobals "_law_text" = some (some (.ref f__law_text)))
    (l__law_text : K.lookup f__law_text = some ⟨oc__law_text, od__law_text, .func (PySem.W.fnOf "_law_text" "_law_text" (defArgs s__law_text) (defBody s__law_text) (defScope s__law_text) .none kV__law_text dc__law_text pm__law_text an__law_text cd__law_text ct__law_text), sl__law_text⟩)
    (c__law_text : PySem.W.codeIn K cd__law_text "_law_text" = true)
    (k__law_text : PySem.W.keepIn K (.ref f__law_text) = true)
    (a__law_house : PySem.W.nsIn K mainGlobals "_law_house" = some (some (.ref f__law_house)))
    (l__law_house : K.lookup f__law_house = some ⟨oc__law_house, od__law_house, .func (PySem.W.fnOf "_law_house" "_law_house" (defArgs s__law_house) (defBody s__law_house) (defScope s__law_house) .none kV__law_house dc__law_house pm__law_house an__law_house cd__law_house ct__law_house), sl__law_house⟩)
    (c__law_house : PySem.W.codeIn K cd__law_house "_law_house" = true)
    (k__law_house : PySem.W.keepIn K (.ref f__law_house) = true)
    (a__law_word : PySem.W.nsIn K mainGlobals "_law_word" = some (some (.ref f__law_word)))
    (l__law_word : K.lookup f__law_word = some ⟨oc__law_word, od__law_word, .func (PySem.W.fnOf "_law_word" "_law_word" (defArgs s__law_word) (defBody s__law_word) (defScope s__law_word) .none kV__law_word dc__law_word pm__law_word an__law_word cd__law_word ct__law_word), sl__law_word⟩)
    (c__law_word : PySem.W.codeIn K cd__law_word "_law_word" = true)
    (k__law_word : PySem.W.keepIn K (.ref f__law_word) = true)
    (a__law_alike : PySem.W.nsIn K mainGlobals "_law_alike" = some (some (.ref f__law_alike)))
    (l__law_alike : K.lookup f__law_alike = some ⟨oc__law_alike, od__law_alike, .func (PySem.W.fnOf "_law_alike" "_law_alike" (defArgs s__law_alike) (defBody s__law_alike) (defScope s__law_alike) .none kV__law_alike dc__law_alike pm__law_alike an__law_alike cd__law_alike ct__law_alike), sl__law_alike⟩)
    (c__law_alike : PySem.W.codeIn K cd__law_alike "_law_alike" = true)
    (k__law_alike : PySem.W.keepIn K (.ref f__law_alike) = true)
    (a__law_is_stretch : PySem.W.nsIn K mainGlobals "_law_is_stretch" = some (some (.ref f__law_is_stretch)))
    (l__law_is_stretch : K.lookup f__law_is_stretch = some ⟨oc__law_is_stretch, od__law_is_stretch, .func (PySem.W.fnOf "_law_is_stretch" "_law_is_stretch" (defArgs s__law_is_stretch) (defBody s__law_is_stretch) (defScope s__law_is_stretch) .none kV__law_is_stretch dc__law_is_stretch pm__law_is_stretch an__law_is_stretch cd__law_is_stretch ct__law_is_stretch), sl__law_is_stretch⟩)
    (c__law_is_stretch : PySem.W.codeIn K cd__law_is_stretch "_law_is_stretch" = true)
    (k__law_is_stretch : PySem.W.keepIn K (.ref f__law_is_stretch) = true)
    (a__law_pieces : PySem.W.nsIn K mainGlobals "_law_pieces" = some (some (.ref f__law_pieces)))
    (l__law_pieces : K.lookup f__law_pieces = some ⟨oc__law_pieces, od__law_pieces, .func (PySem.W.fnOf "_law_pieces" "_law_pieces" (defArgs s__law_pieces) (defBody s__law_pieces) (defScope s__law_pieces) .none kV__law_pieces dc__law_pieces pm__law_pieces an__law_pieces cd__law_pieces ct__law_pieces), sl__law_pieces⟩)
    (c__law_pieces : PySem.W.codeIn K cd__law_pieces "_law_pieces" = true)
    (k__law_pieces : PySem.W.keepIn K (.ref f__law_pieces) = true)
    (a__law_least : PySem.W.nsIn K mainGlobals "_law_least" = some (some (.ref f__law_least)))
    (l__law_least : K.lookup f__law_least = some ⟨oc__law_least, od__law_least, .func (PySem.W.fnOf "_law_least" "_law_least" (defArgs s__law_least) (defBody s__law_least) (defScope s__law_least) .none kV__law_least dc__law_least pm__law_least an__law_least cd__law_least ct__law_least), sl__law_least⟩)
    (c__law_least : PySem.W.codeIn K cd__law_least "_law_least" = true)
    (k__law_least : PySem.W.keepIn K (.ref f__law_least) = true)
    (a__law_due : PySem.W.nsIn K mainGlobals "_law_due" = some (some (.ref f__law_due)))
    (l__law_due : K.lookup f__law_due = some ⟨oc__law_due, od__law_due, .func (PySem.W.fnOf "_law_due" "_law_due" (defArgs s__law_due) (defBody s__law_due) (defScope s__law_due) .none kV__law_due dc__law_due pm__law_due an__law_due cd__law_due ct__law_due), sl__law_due⟩)
    (c__law_due : PySem.W.codeIn K cd__law_due "_law_due" = true)
    (k__law_due : PySem.W.keepIn K (.ref f__law_due) = true)
    (a__law_changed : PySem.W.nsIn K mainGlobals "_law_changed" = some (some (.ref f__law_changed)))
    (l__law_changed : K.lookup f__law_changed = some ⟨oc__law_changed, od__law_changed, .func (PySem.W.fnOf "_law_changed" "_law_changed" (defArgs s__law_changed) (defBody s__law_changed) (defScope s__law_changed) .none kV__law_changed dc__law_changed pm__law_changed an__law_changed cd__law_changed ct__law_changed), sl__law_changed⟩)
    (c__law_changed : PySem.W.codeIn K cd__law_changed "_law_changed" = true)
    (k__law_changed : PySem.W.keepIn K (.ref f__law_changed) = true)
    (a_law : PySem.W.nsIn K mainGlobals "law" = some (some (.ref f_law)))
    (l_law : K.lookup f_law = some ⟨oc_law, od_law, .func (PySem.W.fnOf "law" "law" (defArgs s_law) (defBody s_law) (defScope s_law) .none kV_law dc_law pm_law an_law cd_law ct_law), sl_law⟩)
    (c_law : PySem.W.codeIn K cd_law "law" = true)
    (k_law : PySem.W.keepIn K (.ref f_law) = true)
    (z_abs : PySem.W.nsIn K mainGlobals "abs" = some none)
    (z_dict : PySem.W.nsIn K mainGlobals "dict" = some none)
    (z_int : PySem.W.nsIn K mainGlobals "int" = some none)
    (z_isinstance : PySem.W.nsIn K mainGlobals "isinstance" = some none)
    (z_len : PySem.W.nsIn K mainGlobals "len" = some none)
    (z_list : PySem.W.nsIn K mainGlobals "list" = some none)
    (z_max : PySem.W.nsIn K mainGlobals "max" = some none)
    (z_min : PySem.W.nsIn K mainGlobals "min" = some none)
    (z_range : PySem.W.nsIn K mainGlobals "range" = some none)
    (z_repr : PySem.W.nsIn K mainGlobals "repr" = some none)
    (nolist : (K.all fun p => !(p.2.cls == .type "list")) = true)
    : (∀ b ob, K.lookup b = some ob → ob.cls ≠ .type "list") ∧ ∃ fd : FuncData, Fun K "law" "law" s_law fa fd ∧ (∀ (s : Shared) (u : Value), BindsTo s fd ⟨[u], []⟩ [("script", u)]) ∧
      ∀ (base : Heap) (cdv : Value) (s : Shared) (H : Hp), K.In base → base.Ns mainGlobals mg →
        DSs (cxOf (L2.CX P w) P w K mg base n_law "law" (defScope s_law) fa cdv callerA [] s H fun _ _ _ => False) ⟨wE fun _ _ _ => False, mg, none⟩ ⟨[], [], .pl⟩ (mode0 n_law.length 1) [] (defBody s_law) o_law := by
  have e := hfa.symm.trans (PySem.W.mg_of X G a_law)
  cases e
  have F_alike := fun_mk (st := s_alike) l_alike c_alike k_alike
  have F_size_of := fun_mk (st := s_size_of) l_size_of c_size_of k_size_of
  have F_longest_stretch := fun_mk (st := s_longest_stretch) l_longest_stretch c_longest_stretch k_longest_stretch
  have F_cut_word := fun_mk (st := s_cut_word) l_cut_word c_cut_word k_cut_word
  have F_places := fun_mk (st := s_places) l_places c_places k_places
  have F_told_windows := fun_mk (st := s_told_windows) l_told_windows c_told_windows k_told_windows
  have F_are_apart := fun_mk (st := s_are_apart) l_are_apart c_are_apart k_are_apart
  have F_word_windows := fun_mk (st := s_word_windows) l_word_windows c_word_windows k_word_windows
  have F_are_pieces_of := fun_mk (st := s_are_pieces_of) l_are_pieces_of c_are_pieces_of k_are_pieces_of
  have F_check_word := fun_mk (st := s_check_word) l_check_word c_check_word k_check_word
  have F__law_numbers := fun_mk (st := s__law_numbers) l__law_numbers c__law_numbers k__law_numbers
  have F__law_drawn := fun_mk (st := s__law_drawn) l__law_drawn c__law_drawn k__law_drawn
  have F__law_signs := fun_mk (st := s__law_signs) l__law_signs c__law_signs k__law_signs
  have F__law_text := fun_mk (st := s__law_text) l__law_text c__law_text k__law_text
  have F__law_house := fun_mk (st := s__law_house) l__law_house c__law_house k__law_house
  have F__law_word := fun_mk (st := s__law_word) l__law_word c__law_word k__law_word
  have F__law_alike := fun_mk (st := s__law_alike) l__law_alike c__law_alike k__law_alike
  have F__law_is_stretch := fun_mk (st := s__law_is_stretch) l__law_is_stretch c__law_is_stretch k__law_is_stretch
  have F__law_pieces := fun_mk (st := s__law_pieces) l__law_pieces c__law_pieces k__law_pieces
  have F__law_least := fun_mk (st := s__law_least) l__law_least c__law_least k__law_least
  have F__law_due := fun_mk (st := s__law_due) l__law_due c__law_due k__law_due
  have F__law_changed := fun_mk (st := s__law_changed) l__law_changed c__law_changed k__law_changed
  have F_law := fun_mk (st := s_law) l_law c_law k_law
  let T : Txt K mg := {
    f_alike := f_alike,
    fd_alike := _,
    F_alike := F_alike,
    bd_alike := F_alike.binds (ps := p_alike) fun _ _ _ _ _ _ us hl => match us, hl with | [_, _, _, _], _ => rfl,
    m_alike := PySem.W.mg_of X G a_alike,
    k_alike := k_alike,
    f_size_of := f_size_of,
    fd_size_of := _,
    F_size_of := F_size_of,
    bd_size_of := F_size_of.binds (ps := p_size_of) fun _ _ _ _ _ _ us hl => match us, hl with | [_], _ => rfl,
    m_size_of := PySem.W.mg_of X G a_size_of,
    k_size_of := k_size_of,
    f_longest_stretch := f_longest_stretch,
    fd_longest_stretch := _,
    F_longest_stretch := F_longest_stretch,
    bd_longest_stretch := F_longest_stretch.binds (ps := p_longest_stretch) fun _ _ _ _ _ _ us hl => match us, hl with | [_, _, _], _ => rfl,
    m_longest_stretch := PySem.W.mg_of X G a_longest_stretch,
    k_longest_stretch := k_longest_stretch,
    f_cut_word := f_cut_word,
    fd_cut_word := _,
    F_cut_word := F_cut_word,
    bd_cut_word := F_cut_word.binds (ps := p_cut_word) fun _ _ _ _ _ _ us hl => match us, hl with | [_, _], _ => rfl,
    m_cut_word := PySem.W.mg_of X G a_cut_word,
    k_cut_word := k_cut_word,
    f_places := f_places,
    fd_places := _,
    F_places := F_places,
    bd_places := F_places.binds (ps := p_places) fun _ _ _ _ _ _ us hl => match us, hl with | [_, _], _ => rfl,
    m_places := PySem.W.mg_of X G a_places,
    k_places := k_places,
    f_told_windows := f_told_windows,
    fd_told_windows := _,
    F_told_windows := F_told_windows,
    bd_told_windows := F_told_windows.binds (ps := p_told_windows) fun _ _ _ _ _ _ us hl => match us, hl with | [_, _], _ => rfl,
    m_told_windows := PySem.W.mg_of X G a_told_windows,
    k_told_windows := k_told_windows,
    f_are_apart := f_are_apart,
    fd_are_apart := _,
    F_are_apart := F_are_apart,
    bd_are_apart := F_are_apart.binds (ps := p_are_apart) fun _ _ _ _ _ _ us hl => match us, hl with | [_], _ => rfl,
    m_are_apart := PySem.W.mg_of X G a_are_apart,
    k_are_apart := k_are_apart,
    f_word_windows := f_word_windows,
    fd_word_windows := _,
    F_word_windows := F_word_windows,
    bd_word_windows := F_word_windows.binds (ps := p_word_windows) fun _ _ _ _ _ _ us hl => match us, hl with | [_, _], _ => rfl,
    m_word_windows := PySem.W.mg_of X G a_word_windows,
    k_word_windows := k_word_windows,
    f_are_pieces_of := f_are_pieces_of,
    fd_are_pieces_of := _,
    F_are_pieces_of := F_are_pieces_of,
    bd_are_pieces_of := F_are_pieces_of.binds (ps := p_are_pieces_of) fun _ _ _ _ _ _ us hl => match us, hl with | [_, _, _], _ => rfl,
    m_are_pieces_of := PySem.W.mg_of X G a_are_pieces_of,
    k_are_pieces_of := k_are_pieces_of,
    f_check_word := f_check_word,
    fd_check_word := _,
    F_check_word := F_check_word,
    bd_check_word := F_check_word.binds (ps := p_check_word) fun _ _ _ _ _ _ us hl => match us, hl with | [_, _, _, _], _ => rfl,
    m_check_word := PySem.W.mg_of X G a_check_word,
    k_check_word := k_check_word,
    f__law_numbers := f__law_numbers,
    fd__law_numbers := _,
    F__law_numbers := F__law_numbers,
    bd__law_numbers := F__law_numbers.binds (ps := p__law_numbers) fun _ _ _ _ _ _ us hl => match us, hl with | [_, _], _ => rfl,
    m__law_numbers := PySem.W.mg_of X G a__law_numbers,
    k__law_numbers := k__law_numbers,
    f__law_drawn := f__law_drawn,
    fd__law_drawn := _,
    F__law_drawn := F__law_drawn,
    bd__law_drawn := F__law_drawn.binds (ps := p__law_drawn) fun _ _ _ _ _ _ us hl => match us, hl with | [_, _], _ => rfl,
    m__law_drawn := PySem.W.mg_of X G a__law_drawn,
    k__law_drawn := k__law_drawn,
    f__law_signs := f__law_signs,
    fd__law_signs := _,
    F__law_signs := F__law_signs,
    bd__law_signs := F__law_signs.binds (ps := p__law_signs) fun _ _ _ _ _ _ us hl => match us, hl with | [_, _], _ => rfl,
    m__law_signs := PySem.W.mg_of X G a__law_signs,
    k__law_signs := k__law_signs,
    f__law_text := f__law_text,
    fd__law_text := _,
    F__law_text := F__law_text,
    bd__law_text := F__law_text.binds (ps := p__law_text) fun _ _ _ _ _ _ us hl => match us, hl with | [_, _, _], _ => rfl,
    m__law_text := PySem.W.mg_of X G a__law_text,
    k__law_text := k__law_text,
    f__law_house := f__law_house,
    fd__law_house := _,
    F__law_house := F__law_house,
    bd__law_house := F__law_house.binds (ps := p__law_house) fun _ _ _ _ _ _ us hl => match us, hl with | [_, _, _, _], _ => rfl,
    m__law_house := PySem.W.mg_of X G a__law_house,
    k__law_house := k__law_house,
    f__law_word := f__law_word,
    fd__law_word := _,
    F__law_word := F__law_word,
    bd__law_word := F__law_word.binds (ps := p__law_word) fun _ _ _ _ _ _ us hl => match us, hl with | [_, _, _, _], _ => rfl,
    m__law_word := PySem.W.mg_of X G a__law_word,
    k__law_word := k__law_word,
    f__law_alike := f__law_alike,
    fd__law_alike := _,
    F__law_alike := F__law_alike,
    bd__law_alike := F__law_alike.binds (ps := p__law_alike) fun _ _ _ _ _ _ us hl => match us, hl with | [_, _, _, _], _ => rfl,
    m__law_alike := PySem.W.mg_of X G a__law_alike,
    k__law_alike := k__law_alike,
    f__law_is_stretch := f__law_is_stretch,
    fd__law_is_stretch := _,
    F__law_is_stretch := F__law_is_stretch,
    bd__law_is_stretch := F__law_is_stretch.binds (ps := p__law_is_stretch) fun _ _ _ _ _ _ us hl => match us, hl with | [_, _], _ => rfl,
    m__law_is_stretch := PySem.W.mg_of X G a__law_is_stretch,
    k__law_is_stretch := k__law_is_stretch,
    f__law_pieces := f__law_pieces,
    fd__law_pieces := _,
    F__law_pieces := F__law_pieces,
    bd__law_pieces := F__law_pieces.binds (ps := p__law_pieces) fun _ _ _ _ _ _ us hl => match us, hl with | [_, _], _ => rfl,
    m__law_pieces := PySem.W.mg_of X G a__law_pieces,
    k__law_pieces := k__law_pieces,
    f__law_least := f__law_least,
    fd__law_least := _,
    F__law_least := F__law_least,
    bd__law_least := F__law_least.binds (ps := p__law_least) fun _ _ _ _ _ _ us hl => match us, hl with | [_, _], _ => rfl,
    m__law_least := PySem.W.mg_of X G a__law_least,
    k__law_least := k__law_least,
    f__law_due := f__law_due,
    fd__law_due := _,
    F__law_due := F__law_due,
    bd__law_due := F__law_due.binds (ps := p__law_due) fun _ _ _ _ _ _ us hl => match us, hl with | [_, _, _, _], _ => rfl,
    m__law_due := PySem.W.mg_of X G a__law_due,
    k__law_due := k__law_due,
    f__law_changed := f__law_changed,
    fd__law_changed := _,
    F__law_changed := F__law_changed,
    bd__law_changed := F__law_changed.binds (ps := p__law_changed) fun _ _ _ _ _ _ us hl => match us, hl with | [_, _, _, _], _ => rfl,
    m__law_changed := PySem.W.mg_of X G a__law_changed,
    k__law_changed := k__law_changed,
    b_abs := PySem.W.mg_none_of X G z_abs,
    b_dict := PySem.W.mg_none_of X G z_dict,
    b_int := PySem.W.mg_none_of X G z_int,
    b_isinstance := PySem.W.mg_none_of X G z_isinstance,
    b_len := PySem.W.mg_none_of X G z_len,
    b_list := PySem.W.mg_none_of X G z_list,
    b_max := PySem.W.mg_none_of X G z_max,
    b_min := PySem.W.mg_none_of X G z_min,
    b_range := PySem.W.mg_none_of X G z_range,
    b_repr := PySem.W.mg_none_of X G z_repr }
  refine ⟨fun b ob e z => ?_, _, F_law, fun s u => .of_eq rfl, body_law T fa⟩
  exact nolist_of nolist e z

end K48
/-! how a word meets a text: the longest beginning of the word that ends the text (plain lists) -/
namespace KM
/-- the beginning of length k ends t -/
abbrev Sf (w t : List Nat) (k : Nat) : Prop := k ≤ w.length ∧ w.take k <:+ t
def bd (w t : List Nat) : Nat → Nat
  | 0 => 0
  | k + 1 => if w.take (k + 1) <:+ t then k + 1 else bd w t k
def bord (w t : List Nat) : Nat := bd w t w.length
theorem bd_le (w t : List Nat) : ∀ n, bd w t n ≤ n
  | 0 => Nat.le_refl _
  | n + 1 => by
    unfold bd
    split
    · exact Nat.le_refl _
    · exact Nat.le_succ_of_le (bd_le w t n)
theorem bd_sf (w t : List Nat) : ∀ n, w.take (bd w t n) <:+ t
  | 0 => by simp [bd]
  | n + 1 => by
    unfold bd
    split
    · assumption
    · exact bd_sf w t n
theorem bd_max (w t : List Nat) : ∀ n k, k ≤ n → w.take k <:+ t → k ≤ bd w t n
  | 0, k, h, _ => by simpa [bd] using h
  | n + 1, k, h, hk => by
    unfold bd
    split
    · exact h
    · rename_i hn
      have : k ≠ n + 1 := fun e => hn (e ▸ hk)
      exact bd_max w t n k (by omega) hk
theorem bord_le (w t : List Nat) : bord w t ≤ w.length := bd_le _ _ _
theorem bord_sf (w t : List Nat) : w.take (bord w t) <:+ t := bd_sf _ _ _
theorem bord_max {w t : List Nat} {k : Nat} (h : Sf w t k) : k ≤ bord w t := bd_max _ _ _ _ h.1 h.2
theorem bord_eq {w t : List Nat} {k : Nat} (h : Sf w t k) (hm : ∀ j, Sf w t j → j ≤ k) : bord w t = k := Nat.le_antisymm (hm _ ⟨bord_le w t, bord_sf w t⟩) (bord_max h)
theorem bord_ext {w t t' : List Nat} (h : ∀ k, Sf w t k ↔ Sf w t' k) : bord w t = bord w t' :=
  bord_eq ((h _).mpr ⟨bord_le w t', bord_sf w t'⟩) fun j hj => bord_max ((h j).mp hj)
theorem suf_app {X t u : List Nat} : X <:+ t ++ u ↔ X <:+ u ∨ ∃ Y, X = Y ++ u ∧ Y <:+ t := by
  constructor
  · rintro ⟨p, hp⟩
    rcases List.append_eq_append_iff.mp hp with ⟨a, h1, h2⟩ | ⟨a, h1, h2⟩
    · exact .inr ⟨a, h2, p, h1.symm⟩
    · exact .inl ⟨a, h2.symm⟩
  · rintro (h | ⟨Y, rfl, p, rfl⟩)
    · exact h.trans (List.suffix_append _ _)
    · exact ⟨p, by simp⟩
theorem bord_app (w t u : List Nat) : bord w (t ++ u) = bord w (w.take (bord w t) ++ u) := by
  refine bord_ext fun k => ?_
  constructor
  · rintro ⟨hk, h⟩
    refine ⟨hk, suf_app.mpr ?_⟩
    rcases suf_app.mp h with h | ⟨Y, e, hY⟩
    · exact .inl h
    · refine .inr ⟨Y, e, ?_⟩
      have hl : Y.length ≤ w.length := by
        have := congrArg List.length e
        simp at this
        omega
      have hY2 : Y = w.take Y.length := by
        have h1 : (w.take k).take Y.length = Y := by rw [e]; simp
        rw [List.take_take] at h1
        have : Y.length ≤ k := by
          have := congrArg List.length e
          simp at this
          omega
        rw [Nat.min_eq_left this] at h1
        exact h1.symm
      have hb : Y.length ≤ bord w t := bord_max ⟨hl, hY2 ▸ hY⟩
      exact List.suffix_of_suffix_length_le hY (bord_sf w t) (by rw [List.length_take]; have := bord_le w t; omega)
  · rintro ⟨hk, h⟩
    refine ⟨hk, h.trans ?_⟩
    obtain ⟨p, hp⟩ := bord_sf w t
    exact ⟨p, by rw [← List.append_assoc, hp]⟩
theorem bord_take {w : List Nat} {m : Nat} (h : m ≤ w.length) : bord w (w.take m) = m := by
  refine bord_eq ⟨h, List.suffix_refl _⟩ fun j hj => ?_
  have := hj.2.length_le
  simp at this
  omega
/-- the match behind u, from the match m -/
def st (w : List Nat) (m : Nat) (u : List Nat) : Nat := bord w (w.take m ++ u)
theorem st_le (w : List Nat) (m : Nat) (u : List Nat) : st w m u ≤ w.length := bord_le _ _
theorem st_nil {w : List Nat} {m : Nat} (h : m ≤ w.length) : st w m [] = m := by simp [st, bord_take h]
theorem st_app (w : List Nat) (m : Nat) (u v : List Nat) : st w m (u ++ v) = st w (st w m u) v := by
  unfold st
  rw [← List.append_assoc, bord_app]
theorem st_zero (w t : List Nat) : st w 0 t = bord w t := by simp [st]
/-- how often the whole word is met in u, from the match m -/
def ct (w : List Nat) (m : Nat) : List Nat → Nat
  | [] => 0
  | c :: u => (if st w m [c] = w.length then 1 else 0) + ct w (st w m [c]) u
theorem ct_app (w : List Nat) : ∀ (u : List Nat) (m : Nat) (v : List Nat), m ≤ w.length → ct w m (u ++ v) = ct w m u + ct w (st w m u) v
  | [], m, v, h => by simp [ct, st_nil h]
  | c :: u, m, v, h => by
    have ih := ct_app w u (st w m [c]) v (st_le _ _ _)
    rw [List.cons_append, ct, ih, ct, ← st_app]
    simp
    omega
theorem st_full {w t : List Nat} : bord w t = w.length ↔ w <:+ t := by
  constructor
  · intro h
    have := bord_sf w t
    rw [h, List.take_length] at this
    exact this
  · intro h
    exact bord_eq ⟨Nat.le_refl _, by rw [List.take_length]; exact h⟩ fun j hj => hj.1
/-- the places of w in t -/
def occ (w t : List Nat) : Nat := ((List.range (t.length + 1 - w.length)).filter fun k => decide ((t.drop k).take w.length = w)).length
theorem occ_snoc {w t : List Nat} {c : Nat} (hw : 0 < w.length) : occ w (t ++ [c]) = occ w t + if w <:+ t ++ [c] then 1 else 0 := by
  unfold occ
  rw [List.length_append]
  simp only [List.length_cons, List.length_nil]
  by_cases h : w.length ≤ t.length + 1
  · rw [show t.length + (0 + 1) + 1 - w.length = (t.length + 1 - w.length) + 1 by omega, List.range_succ, List.filter_append, List.length_append]
    congr 1
    · congr 1
      apply List.filter_congr
      intro k hk
      rw [List.mem_range] at hk
      rw [List.drop_append_of_le_length (by omega), List.take_append_of_le_length (by rw [List.length_drop]; omega)]
    · have e : (((t ++ [c]).drop (t.length + 1 - w.length)).take w.length = w) ↔ w <:+ t ++ [c] := by
        have hl : ((t ++ [c]).drop (t.length + 1 - w.length)).length = w.length := by simp; omega
        rw [List.take_of_length_le (by omega)]
        constructor
        · intro h; rw [← h]; exact List.drop_suffix _ _
        · intro h
          rw [List.suffix_iff_eq_drop] at h
          have h' : (t ++ [c]).length - w.length = t.length + 1 - w.length := by simp
          rw [h'] at h
          exact h.symm
      by_cases hs : w <:+ t ++ [c]
      · simp [e.mpr hs, hs]
      · have : ¬ (((t ++ [c]).drop (t.length + 1 - w.length)).take w.length = w) := fun z => hs (e.mp z)
        simp [this, hs]
  · have h1 : t.length + (0 + 1) + 1 - w.length = 0 := by omega
    have h2 : t.length + 1 - w.length = 0 := by omega
    rw [h1, h2]
    have : ¬ w <:+ t ++ [c] := fun z => by have := z.length_le; simp at this; omega
    simp [this]
theorem occ_ct {w : List Nat} (hw : 0 < w.length) (t : List Nat) : occ w t = ct w 0 t := by
  have key : ∀ s : List Nat, occ w s.reverse = ct w 0 s.reverse := by
    intro s
    induction s with
    | nil =>
      have h2 : ([] : List Nat).length + 1 - w.length = 0 := by simp; omega
      simp [occ, ct]
      omega
    | cons c s ih =>
      rw [List.reverse_cons, occ_snoc hw, ct_app w _ 0 _ (Nat.zero_le _), ih]
      congr 1
      simp only [ct, Nat.add_zero]
      rw [← st_app, st_zero]
      by_cases h : w <:+ s.reverse ++ [c]
      · rw [if_pos h, if_pos (st_full.mpr h)]
      · rw [if_neg h, if_neg (fun z => h (st_full.mp z))]
  have := key t.reverse
  rwa [List.reverse_reverse] at this
end KM

namespace DL
open PySem PySem.Spec L2
/-! ### symbols and their texts -/
inductive Sy where
  | L (c : Nat) | P (i j : Nat)
  deriving DecidableEq
def Sy.d : Sy → D
  | .L c => .tuple [.str "letter", .str (txS [c])]
  | .P i j => .tuple [.str "pair", .int i, .int j]
def txAdd (T : List (List Nat)) : Sy → List Nat
  | .L c => [c]
  | .P i j => T.getD i [] ++ T.getD j []
def txs (s : List Sy) : List (List Nat) := s.foldl (fun T x => T ++ [txAdd T x]) []
theorem txs_snoc (s : List Sy) (x : Sy) : txs (s ++ [x]) = txs s ++ [txAdd (txs s) x] := by simp [txs]
theorem snoc_ind {α : Type} {p : List α → Prop} (h0 : p []) (hs : ∀ s x, p s → p (s ++ [x])) (s : List α) : p s := by
  have : ∀ t : List α, p t.reverse := by
    intro t
    induction t with
    | nil => exact h0
    | cons x t ih => rw [List.reverse_cons]; exact hs _ _ ih
  have := this s.reverse
  rwa [List.reverse_reverse] at this
theorem txs_length (s : List Sy) : (txs s).length = s.length := by
  refine snoc_ind (p := fun s => (txs s).length = s.length) rfl (fun s x ih => ?_) s
  rw [txs_snoc]; simp [ih]
/-- pairs point back -/
structure WF (s : List Sy) : Prop where
  pair : ∀ (k i j : Nat), s[k]? = some (Sy.P i j) → i < k ∧ j < k
  let' : ∀ c, Sy.L c ∈ s → c < 128
theorem WF.nil : WF [] := ⟨fun k i j h => by simp at h, fun c h => nomatch h⟩
theorem WF.snoc {s : List Sy} {x : Sy} (h : WF s) (hx : match x with | .L c => c < 128 | .P i j => i < s.length ∧ j < s.length) : WF (s ++ [x]) := by
  constructor
  · intro k i j e
    by_cases hk : k < s.length
    · rw [List.getElem?_append_left hk] at e; exact h.pair k i j e
    · rw [List.getElem?_append_right (by omega)] at e
      have : k - s.length = 0 := by
        rcases Nat.eq_zero_or_pos (k - s.length) with z | z
        · exact z
        · rw [List.getElem?_eq_none (by simp; omega)] at e; cases e
      rw [this] at e
      simp at e
      subst e
      simp at hx
      omega
  · intro c e
    rcases List.mem_append.mp e with e | e
    · exact h.let' c e
    · simp at e; subst e; exact hx
theorem WF.take {s : List Sy} (h : WF s) (n : Nat) : WF (s.take n) := by
  constructor
  · intro k i j e
    rw [List.getElem?_take] at e
    split at e
    · exact h.pair k i j e
    · cases e
  · intro c e
    exact h.let' c (List.mem_of_mem_take e)
theorem txs_pre (s : List Sy) : ∀ (t : List Sy) (k : Nat), k < s.length → (txs (s ++ t))[k]? = (txs s)[k]? := by
  intro t
  refine snoc_ind (p := fun t => ∀ (k : Nat), k < s.length → (txs (s ++ t))[k]? = (txs s)[k]?) ?_ ?_ t
  · intro k _; simp
  · intro t x ih k hk
    rw [← List.append_assoc, txs_snoc, List.getElem?_append_left (by rw [txs_length]; simp; omega)]
    exact ih k hk
theorem txs_take {s : List Sy} {n k : Nat} (hk : k < n) (hn : n ≤ s.length) : (txs (s.take n))[k]? = (txs s)[k]? := by
  have := txs_pre (s.take n) (s.drop n) k (by rw [List.length_take]; omega)
  rw [List.take_append_drop] at this
  exact this.symm
/-- a text of a symbol -/
def tx (s : List Sy) (k : Nat) : List Nat := (txs s).getD k []
theorem tx_get {s : List Sy} {k : Nat} (h : k < s.length) : (txs s)[k]? = some (tx s k) := by
  unfold tx
  rw [List.getD_eq_getElem?_getD, List.getElem?_eq_getElem (by rw [txs_length]; exact h)]
  rfl
theorem tx_take {s : List Sy} {n k : Nat} (hk : k < n) (hn : n ≤ s.length) : tx (s.take n) k = tx s k := by
  unfold tx
  rw [List.getD_eq_getElem?_getD, List.getD_eq_getElem?_getD, txs_take hk hn]
theorem take_snoc {α : Type} {s : List α} {k : Nat} {x : α} (h : s[k]? = some x) : s.take (k + 1) = s.take k ++ [x] := by
  rw [List.take_succ, h]; rfl
theorem lt_of_get {α : Type} {s : List α} {k : Nat} {x : α} (h : s[k]? = some x) : k < s.length := (List.getElem?_eq_some_iff.mp h).1
theorem tx_at {s : List Sy} {k : Nat} {x : Sy} (h : s[k]? = some x) : tx s k = txAdd (txs (s.take k)) x := by
  have hk := lt_of_get h
  rw [← tx_take (Nat.lt_succ_self k) hk, take_snoc h]
  have hl : (txs (s.take k)).length = k := by rw [txs_length, List.length_take]; omega
  unfold tx
  rw [txs_snoc, List.getD_eq_getElem?_getD, List.getElem?_append_right (by omega), hl]
  simp
theorem tx_L {s : List Sy} {k c : Nat} (h : s[k]? = some (.L c)) : tx s k = [c] := tx_at h
theorem tx_P {s : List Sy} (w : WF s) {k i j : Nat} (h : s[k]? = some (.P i j)) : tx s k = tx s i ++ tx s j := by
  obtain ⟨hi, hj⟩ := w.pair k i j h
  have hk := lt_of_get h
  rw [tx_at h]
  show tx (s.take k) i ++ tx (s.take k) j = _
  rw [tx_take hi (by omega), tx_take hj (by omega)]
theorem tx_pos {s : List Sy} (w : WF s) : ∀ (n k : Nat), k ≤ n → k < s.length → 0 < (tx s k).length := by
  intro n
  induction n with
  | zero =>
    intro k hn hk
    cases h : s[k] with
    | L c => rw [tx_L (by rw [List.getElem?_eq_getElem hk, h])]; simp
    | P i j => have := w.pair k i j (by rw [List.getElem?_eq_getElem hk, h]); omega
  | succ n ih =>
    intro k hn hk
    cases h : s[k] with
    | L c => rw [tx_L (by rw [List.getElem?_eq_getElem hk, h])]; simp
    | P i j =>
      have e : s[k]? = some (.P i j) := by rw [List.getElem?_eq_getElem hk, h]
      have := w.pair k i j e
      rw [tx_P w e, List.length_append]
      have := ih i (by omega) (by omega)
      omega
/-- the letters are below 128 -/
theorem tx_low {s : List Sy} (w : WF s) : ∀ (n k : Nat), k ≤ n → k < s.length → ∀ c ∈ tx s k, c < 128 := by
  intro n
  induction n with
  | zero =>
    intro k hn hk c hc
    cases h : s[k] with
    | L c' =>
      rw [tx_L (by rw [List.getElem?_eq_getElem hk, h])] at hc
      simp at hc
      subst hc
      exact w.let' c (h ▸ List.getElem_mem hk)
    | P i j => have := w.pair k i j (by rw [List.getElem?_eq_getElem hk, h]); omega
  | succ n ih =>
    intro k hn hk c hc
    cases h : s[k] with
    | L c' =>
      rw [tx_L (by rw [List.getElem?_eq_getElem hk, h])] at hc
      simp at hc
      subst hc
      exact w.let' c (h ▸ List.getElem_mem hk)
    | P i j =>
      have e : s[k]? = some (.P i j) := by rw [List.getElem?_eq_getElem hk, h]
      have := w.pair k i j e
      rw [tx_P w e] at hc
      rcases List.mem_append.mp hc with hc | hc
      · exact ih i (by omega) (by omega) c hc
      · exact ih j (by omega) (by omega) c hc
/-! ### symbols as data -/
abbrev sy (s : List Sy) : D := .list (s.map Sy.d)
theorem sy_get {s : List Sy} {k : Nat} {x : Sy} (h : s[k]? = some x) : ixD (sy s) (.int (k : Int)) = some x.d := ix_nat (by simp [h])
theorem eqs {x y : Str} {b : Bool} (h : decide (x = y) = b) : eqD (.str x) (.str y) = some (.bool b) := by subst h; rfl
theorem nes {x y : Str} {b : Bool} (h : decide (x = y) = b) : neD (.str x) (.str y) = some (.bool !b) := by subst h; rfl
theorem str_pl : eqD (.str ("letter" : String)) (.str ("letter" : String)) = some (.bool true) := eqs (by decide +kernel)
theorem str_pp : eqD (.str ("pair" : String)) (.str ("letter" : String)) = some (.bool false) := eqs (by decide +kernel)
theorem str_lp : eqD (.str ("letter" : String)) (.str ("pair" : String)) = some (.bool false) := eqs (by decide +kernel)
theorem str_pq : eqD (.str ("pair" : String)) (.str ("pair" : String)) = some (.bool true) := eqs (by decide +kernel)
theorem d_L0 {c : Nat} : ixD (Sy.L c).d (.int 0) = some (.str ("letter" : String)) := rfl
theorem d_L1 {c : Nat} : ixD (Sy.L c).d (.int 1) = some (.str (txS [c])) := rfl
theorem d_P0 {i j : Nat} : ixD (Sy.P i j).d (.int 0) = some (.str ("pair" : String)) := rfl
theorem d_P1 {i j : Nat} : ixD (Sy.P i j).d (.int 1) = some (.int i) := rfl
theorem d_P2 {i j : Nat} : ixD (Sy.P i j).d (.int 2) = some (.int j) := rfl
/-- sizes of the first n -/
abbrev szl (s : List Sy) : D := .list ((txs s).map fun t => .int t.length)
theorem szl_get {s : List Sy} {k : Nat} (h : k < s.length) : ixD (szl s) (.int (k : Int)) = some (.int (tx s k).length) := ix_nat (by rw [List.getElem?_map, tx_get h]; rfl)
theorem szl_snoc {s : List Sy} {k : Nat} {x : Sy} (h : s[k]? = some x) : (.list (((txs (s.take k)).map fun t => PyData.int t.length) ++ [.int (tx s k).length]) : D) = szl (s.take (k + 1)) := by
  rw [szl, take_snoc h, txs_snoc, tx_at h]; simp
theorem map_get {α β : Type} {f : α → β} {s : List α} {k : Nat} {d : β} (h : (s.map f)[k]? = some d) : ∃ x, s[k]? = some x ∧ d = f x := by
  rw [List.getElem?_map] at h
  cases e : s[k]? with
  | none => rw [e] at h; cases h
  | some x => rw [e] at h; cases h; exact ⟨x, rfl, rfl⟩
theorem add_str {x y : Str} (h : x.length + y.length ≤ sizeLine) : addD (.str x) (.str y) = some (.str (x ++ y)) := if_pos h
theorem tx_list (cs : List Nat) : (txS cs).cps.toList = cs := by simp [txS]
theorem cut_to {α : Type} (xs : List α) (a : Nat) : cut xs none (some (a : Int)) = xs.take a := by
  have e : ¬ ((a : Int) < 0) := by omega
  simp only [cut, HT.sIx, if_neg e, List.drop_zero, Int.toNat_natCast, Nat.sub_zero]
  by_cases h : a ≤ xs.length
  · rw [Nat.min_eq_left h]
  · rw [Nat.min_eq_right (by omega), List.take_length, List.take_of_length_le (by omega)]
theorem cut_from {α : Type} (xs : List α) (a : Nat) : cut xs (some (a : Int)) none = xs.drop a := by
  have e : ¬ ((a : Int) < 0) := by omega
  simp only [cut, HT.sIx, if_neg e, Int.toNat_natCast]
  by_cases h : a ≤ xs.length
  · rw [Nat.min_eq_left h, List.take_of_length_le (by simp)]
  · rw [Nat.min_eq_right (by omega), List.drop_of_length_le (Nat.le_refl _), List.drop_of_length_le (by omega)]; simp
theorem sl_to {t : List Nat} {a : Nat} (h : t.length ≤ sizeLine) : slD (.str (txS t)) none (some (a : Int)) = some (.str (txS (t.take a))) := by
  have h' : (txS t).length ≤ sizeLine := by rw [txS_length]; exact h
  show (if (txS t).length ≤ sizeLine then some (PyData.str ⟨(cut (txS t).cps.toList none (some (a : Int))).toArray⟩) else none) = _
  rw [if_pos h', tx_list, cut_to]
  rfl
theorem sl_from {t : List Nat} {a : Nat} (h : t.length ≤ sizeLine) : slD (.str (txS t)) (some (a : Int)) none = some (.str (txS (t.drop a))) := by
  have h' : (txS t).length ≤ sizeLine := by rw [txS_length]; exact h
  show (if (txS t).length ≤ sizeLine then some (PyData.str ⟨(cut (txS t).cps.toList (some (a : Int)) none).toArray⟩) else none) = _
  rw [if_pos h', tx_list, cut_from]
  rfl
theorem min_nat (a b : Nat) : (if (b : Int) < (a : Int) then (b : Int) else (a : Int)) = ((min a b : Nat) : Int) := by
  split <;> omega
theorem ne_txt (x y : List Nat) : neD (.str (txS x)) (.str (txS y)) = some (.bool (!decide (x = y))) := by
  show some (PyData.bool (!decide (txS x = txS y))) = _
  by_cases h : x = y
  · subst h; simp
  · have h2 : ¬ txS x = txS y := fun z => h (txS_inj z)
    rw [decide_eq_false h, decide_eq_false h2]
end DL

namespace DL
open PySem PySem.Spec L2
def pw (T : List Nat) : Nat → List Nat
  | 0 => T
  | m + 1 => pw T m ++ pw T m
theorem pw_len (T : List Nat) : ∀ m, (pw T m).length = T.length * 2 ^ m
  | 0 => by simp [pw]
  | m + 1 => by rw [pw, List.length_append, pw_len T m, Nat.pow_succ, ← Nat.mul_assoc]; omega
def Cy (T X : List Nat) : Prop := ∀ k, k < X.length → X[k]? = T[k % T.length]?
theorem cy_app {T X Y : List Nat} (h1 : Cy T X) (h2 : Cy T Y) {N : Nat} (hN : X.length = T.length * N) : Cy T (X ++ Y) := by
  intro k hk
  by_cases h : k < X.length
  · rw [List.getElem?_append_left h]; exact h1 k h
  · rw [List.getElem?_append_right (by omega), h2 _ (by rw [List.length_append] at hk; omega), hN]
    congr 1
    have e : k = (k - T.length * N) + T.length * N := by omega
    generalize k - T.length * N = z at e
    rw [e, Nat.add_mul_mod_self_left]
theorem cy_self (T : List Nat) : Cy T T := fun k hk => by rw [Nat.mod_eq_of_lt hk]
theorem pw_cy (T : List Nat) : ∀ m, Cy T (pw T m)
  | 0 => cy_self T
  | m + 1 => cy_app (pw_cy T m) (pw_cy T m) (pw_len T m)
def rp (T : List Nat) (n : Nat) : List Nat := (List.replicate n T).flatten
theorem rp_succ (T : List Nat) (n : Nat) : rp T (n + 1) = T ++ rp T n := by simp [rp, List.replicate_succ]
theorem rp_len (T : List Nat) : ∀ n, (rp T n).length = n * T.length
  | 0 => by simp [rp]
  | n + 1 => by rw [rp_succ, List.length_append, rp_len T n, Nat.add_mul]; omega
theorem rp_cy (T : List Nat) : ∀ n, Cy T (rp T n)
  | 0 => fun k hk => by simp [rp] at hk
  | n + 1 => by rw [rp_succ]; exact cy_app (N := 1) (cy_self T) (rp_cy T n) (by omega)
def cyw (T : List Nat) (i n : Nat) : List Nat := (List.range n).map fun j => T.getD ((i + j) % T.length) 0
theorem cyw_len (T : List Nat) (i n : Nat) : (cyw T i n).length = n := by simp [cyw]
theorem win {T X : List Nat} (hL : 0 < T.length) (hX : Cy T X) {i n : Nat} (h : i + n ≤ X.length) : (X.drop i).take n = cyw T i n := by
  apply List.ext_getElem?
  intro j
  by_cases hj : j < n
  · rw [List.getElem?_take_of_lt hj, List.getElem?_drop, hX _ (by omega)]
    unfold cyw
    rw [List.getElem?_map, List.getElem?_range hj]
    have : (i + j) % T.length < T.length := Nat.mod_lt _ hL
    simp [List.getD_eq_getElem?_getD, List.getElem?_eq_getElem this]
  · rw [List.getElem?_eq_none (by rw [List.length_take]; omega), List.getElem?_eq_none (by rw [cyw_len]; omega)]
theorem cyw_mod {T : List Nat} {i j : Nat} (h : i % T.length = j % T.length) (n : Nat) : cyw T i n = cyw T j n := by
  unfold cyw
  refine List.map_congr_left fun k _ => ?_
  rw [Nat.add_mod i k, h, ← Nat.add_mod]
def cnt (q : Nat → Bool) (n : Nat) : Nat := ((List.range n).filter q).length
theorem cnt_add (q : Nat → Bool) (a b : Nat) : cnt q (a + b) = cnt q a + cnt (fun k => q (a + k)) b := by
  unfold cnt
  rw [List.range_add, List.filter_append, List.length_append, List.filter_map, List.length_map]
  rfl
theorem cnt_congr {q r : Nat → Bool} {n : Nat} (h : ∀ k, k < n → q k = r k) : cnt q n = cnt r n := by
  unfold cnt
  congr 1
  exact List.filter_congr fun k hk => h k (List.mem_range.mp hk)
theorem cnt_per {q : Nat → Bool} {L : Nat} (h : ∀ i, q (L + i) = q i) : ∀ N, cnt q (N * L) = N * cnt q L
  | 0 => by simp [cnt]
  | N + 1 => by
    rw [Nat.add_mul, Nat.one_mul, Nat.add_comm, cnt_add, cnt_congr (r := q) (fun k _ => h k), cnt_per h N, Nat.add_mul]
    omega
theorem pw_count {T : List Nat} (hL : 0 < T.length) {m n : Nat} (hm : 4 ≤ m) (hn : 0 < n) (hn2 : n ≤ 12) {w : List Nat} (hw : w.length = n) :
    KM.ct w 0 (pw T m) + cnt (fun k => decide (((rp T 26).drop (13 * T.length - n + 1 + k)).take n = w)) (n - 1) = cnt (fun k => decide (((rp T 13).drop k).take n = w)) T.length * 2 ^ m := by
  have hp : 16 ≤ 2 ^ m := by
    have := Nat.pow_le_pow_right (n := 2) (by omega) hm
    omega
  generalize hN : 2 ^ m = N at hp
  have hS : (pw T m).length = N * T.length := by rw [pw_len, hN, Nat.mul_comm]
  have hbig : 16 * T.length ≤ N * T.length := Nat.mul_le_mul_right _ hp
  let q : Nat → Bool := fun i => decide (cyw T i n = w)
  have e1 : cnt (fun k => decide (((rp T 13).drop k).take n = w)) T.length = cnt q T.length := cnt_congr fun k hk => by
    show decide _ = decide (cyw T k n = w)
    rw [win hL (rp_cy T 13) (by rw [rp_len]; omega)]
  have e2 : cnt (fun k => decide (((rp T 26).drop (13 * T.length - n + 1 + k)).take n = w)) (n - 1) = cnt (fun k => q (N * T.length + 1 - n + k)) (n - 1) := cnt_congr fun k hk => by
    show decide _ = decide (cyw T (N * T.length + 1 - n + k) n = w)
    rw [win hL (rp_cy T 26) (by rw [rp_len]; omega)]
    have : (13 * T.length - n + 1 + k) % T.length = (N * T.length + 1 - n + k) % T.length := by
      have hb : 13 * T.length + (N - 13) * T.length = N * T.length := by rw [← Nat.add_mul]; congr 1; omega
      rw [show N * T.length + 1 - n + k = (13 * T.length - n + 1 + k) + (N - 13) * T.length by omega, Nat.add_mul_mod_self_right]
    rw [cyw_mod this]
  have e3 : KM.ct w 0 (pw T m) = cnt q (N * T.length + 1 - n) := by
    rw [← KM.occ_ct (by omega)]
    unfold KM.occ
    rw [hS, hw]
    refine cnt_congr fun k hk => ?_
    show decide _ = decide (cyw T k n = w)
    rw [win hL (pw_cy T m) (by rw [hS]; omega)]
  rw [e1, e2, e3, ← cnt_add, show N * T.length + 1 - n + (n - 1) = N * T.length by omega, cnt_per (fun i => ?_) N, Nat.mul_comm]
  show decide _ = decide _
  rw [cyw_mod (i := T.length + i) (j := i) (by rw [Nat.add_mod_left])]
theorem mod_nat (a : Int) {n : Nat} (h : 0 < n) : ∃ k : Nat, a % (n : Int) = k ∧ k < n := by
  have h0 := Int.emod_nonneg a (show (n : Int) ≠ 0 by omega)
  have h1 := Int.emod_lt_of_pos a (show (0 : Int) < (n : Int) by omega)
  obtain ⟨k, hn⟩ := Int.eq_ofNat_of_zero_le h0
  exact ⟨k, hn, by omega⟩
theorem mod_in {a b : Int} (h : 0 < b) : 0 ≤ a % b ∧ a % b < b := ⟨Int.emod_nonneg a (by omega), Int.emod_lt_of_pos a h⟩
theorem int_in {a : Int} {n : Nat} (h : 0 ≤ a ∧ a < n) : ∃ k : Nat, a = k ∧ k < n := by
  obtain ⟨k, hk⟩ := Int.eq_ofNat_of_zero_le h.1
  exact ⟨k, hk, by omega⟩
theorem eqi {i j : Int} {b : Bool} (h : decide (i = j) = b) : eqD (.int i) (.int j) = some (.bool b) := by subst h; rfl
theorem nei {i j : Int} {b : Bool} (h : decide (i = j) = b) : neD (.int i) (.int j) = some (.bool !b) := by subst h; rfl
def slc (t : List Nat) (a b : Nat) : List Nat := (t.take b).drop a
theorem slc_app {x y : List Nat} {a b : Nat} (h : a ≤ b) : slc (x ++ y) a b = slc x (min a x.length) (min b x.length) ++ slc y (a - x.length) (b - x.length) := by
  unfold slc
  rw [List.take_append, List.drop_append]
  have h1 : (x.take b).drop a = (x.take (min b x.length)).drop (min a x.length) := by
    by_cases hb : b ≤ x.length
    · rw [Nat.min_eq_left hb, Nat.min_eq_left (show a ≤ x.length by omega)]
    · have hb' : x.length ≤ b := by omega
      have e1 : x.take b = x := List.take_of_length_le hb'
      have e2 : x.take (min b x.length) = x := by rw [Nat.min_eq_right hb', List.take_length]
      rw [e1, e2]
      by_cases ha : a ≤ x.length
      · rw [Nat.min_eq_left ha]
      · rw [Nat.min_eq_right (show x.length ≤ a by omega), List.drop_of_length_le (show x.length ≤ a by omega), List.drop_of_length_le (Nat.le_refl _)]
  have h2 : (y.take (b - x.length)).drop (a - (x.take b).length) = (y.take (b - x.length)).drop (a - x.length) := by
    by_cases hb : b ≤ x.length
    · rw [show b - x.length = 0 by omega]; simp
    · rw [List.take_of_length_le (by omega)]
  rw [h1, h2]
theorem slc_len (t : List Nat) (a b : Nat) : (slc t a b).length ≤ b - a := by
  unfold slc
  rw [List.length_drop, List.length_take]
  omega
theorem ix0 {a : D} {l : List D} : ixD (.tuple (a :: l)) (.int 0) = some a := ix_tup (n := 0) rfl
theorem call_ok {mf : List D → Res D} {ms : Env' → Res (List D)} {env : Env'} {l : List D} {d : D} (h : ms env = .ok l) (h2 : mf l = .ok d) : mCall mf ms env = .ok d := by
  rw [ap_call, h]; exact h2
theorem set_ok {i : Nat} {m : Env' → Res D} {env : Env'} {d : D} (h : m env = .ok d) : oSet i m env = .nx (env.set i (some d)) := by
  rw [ap_set, h]; rfl
theorem mul2 (a : Nat) : mulG (.int 2) (.int (a : Int)) = some (.int ((2 * a : Nat) : Int)) := by
  have c2 : CMul 2 (a : Int) := .inl ⟨by decide, by decide⟩
  show (if CMul 2 (a : Int) then some (PyData.int (2 * (a : Int))) else none) = _
  rw [if_pos c2]
  congr 2
theorem mul16 (a : Nat) : mulG (.int 16) (.int (a : Int)) = some (.int ((16 * a : Nat) : Int)) := by
  have c2 : CMul 16 (a : Int) := .inl ⟨by decide, by decide⟩
  show (if CMul 16 (a : Int) then some (PyData.int (16 * (a : Int))) else none) = _
  rw [if_pos c2]
  congr 2
theorem s_a : (("a" : String) : Str) = txS [97] := by decide +kernel
theorem s_b : (("b" : String) : Str) = txS [98] := by decide +kernel
theorem s_ab : (("ab" : String) : Str) = txS [97, 98] := by decide +kernel
theorem addL {x y : List D} (h : x.length + y.length ≤ sizeLine) : addD (.list x) (.list y) = some (.list (x ++ y)) := if_pos h
theorem tx_app1 {s : List Sy} {x : Sy} {k : Nat} (h : k < s.length) : tx (s ++ [x]) k = tx s k := by
  unfold tx
  rw [List.getD_eq_getElem?_getD, List.getD_eq_getElem?_getD, txs_pre s [x] k h]
theorem tx_new {s : List Sy} {i j : Nat} (w : WF (s ++ [.P i j])) (hi : i < s.length) (hj : j < s.length) : tx (s ++ [.P i j]) s.length = tx s i ++ tx s j := by
  rw [tx_P w (i := i) (j := j) (by simp), tx_app1 hi, tx_app1 hj]
theorem lc_ok {mi : Env' → Res (List D)} {v : Nat} {m : Env' → Res D} {vs : List Nat} {env : Env'} {ds : List D} (g : D → D) (hi : mi env = .ok ds) (hz : ds.length ≤ 16777216)
    (h : ∀ d ∈ ds, m ((wipeE env vs).set v (some d)) = .ok (g d)) : mLc mi (gN v) bYes m vs env = .ok (.list (ds.map g)) := by
  rw [ap_lc, hi, Res.bind_ok, lc_all g h, ap_noX, Res.bind_ok, List.length_map, if_pos (sz_ge hz)]
def onI (lo : Int) (f : Nat → D) : D → D
  | .int i => f (i - lo).toNat
  | d => d
theorem rng_map (lo : Int) (n : Nat) (f : Nat → D) : (rng lo n).map (onI lo f) = (List.range n).map f := by
  unfold rng
  rw [List.map_map]
  refine List.map_congr_left fun k _ => ?_
  show f (lo + (k : Int) - lo).toNat = f k
  congr 1
  omega
theorem rng_mem {lo : Int} {n : Nat} {d : D} (h : d ∈ rng lo n) : ∃ k, k < n ∧ d = .int (lo + (k : Nat)) := by
  unfold rng at h
  obtain ⟨k, hk, rfl⟩ := List.mem_map.mp h
  exact ⟨k, List.mem_range.mp hk, rfl⟩
theorem rng_len (lo : Int) (n : Nat) : (rng lo n).length = n := by simp [rng]
theorem lc_rng {mi : Env' → Res (List D)} {v : Nat} {m : Env' → Res D} {vs : List Nat} {env : Env'} {lo : Int} {n : Nat} (f : Nat → D) (hi : mi env = .ok (rng lo n)) (hz : n ≤ 16777216)
    (h : ∀ k, k < n → m ((wipeE env vs).set v (some (.int (lo + (k : Nat))))) = .ok (f k)) : mLc mi (gN v) bYes m vs env = .ok (.list ((List.range n).map f)) := by
  rw [lc_ok (onI lo f) hi (by rw [rng_len]; exact hz) ?_, rng_map]
  intro d hd
  obtain ⟨k, hk, rfl⟩ := rng_mem hd
  rw [h k hk]
  show _ = Res.ok (f (lo + (k : Int) - lo).toNat)
  rw [show (lo + (k : Int) - lo).toNat = k by omega]
theorem irangeG_ok {env : Env'} {ms : Env' → Res (List D)} {i j : Int} {n : Nat} (h : ms env = .ok [.int i, .int j]) (hn : (j - i).toNat = n) : iRangeG ms env = .ok (rng i n) := by
  unfold iRangeG
  rw [h, Res.bind_ok, ← hn]
  rfl
theorem s_e : (("" : String) : Str) = txS [] := by decide +kernel
theorem strs_one : ∀ ls : List Nat, strsOf (ls.map fun c => PyData.str (txS [c])) = some (ls.map fun c => txS [c])
  | [] => rfl
  | c :: ls => by
    show (strsOf (ls.map fun c => PyData.str (txS [c]))).map _ = _
    rw [strs_one ls]
    rfl
theorem join_one : ∀ ls : List Nat, Str.join (txS []) (ls.map fun c => txS [c]) = txS ls
  | [] => rfl
  | [c] => rfl
  | c :: d :: ls => by
    show txS [c] ++ txS [] ++ Str.join (txS []) ((d :: ls).map fun c => txS [c]) = _
    rw [join_one (d :: ls), txS_append, txS_append]
    rfl
theorem sum_one : ∀ ls : List Nat, ((ls.map fun c => txS [c]).map (·.length)).sum = ls.length
  | [] => rfl
  | c :: ls => by
    rw [List.map_cons, List.map_cons, List.sum_cons, sum_one ls, txS_length, List.length_cons, List.length_cons]
    simp
    omega
theorem join_ok {ls : List Nat} (h : ls.length ≤ 1000000) : joinD (.str ("" : String)) [.list (ls.map fun c => .str (txS [c]))] = some (.str (txS ls)) := by
  rw [s_e]
  unfold joinD
  simp only [strs_one, Option.bind_some, sum_one, List.length_map, txS_length, List.length_nil, Nat.mul_zero, Nat.add_zero, join_one]
  rw [if_pos (by omega)]
theorem slc_range {X : List Nat} {i n : Nat} (h : i + n ≤ X.length) : (List.range n).map (fun k => X.getD (i + k) 0) = slc X i (i + n) := by
  unfold slc
  apply List.ext_getElem?
  intro j
  by_cases hj : j < n
  · rw [List.getElem?_map, List.getElem?_range hj, List.getElem?_drop, List.getElem?_take_of_lt (by omega)]
    simp [List.getD_eq_getElem?_getD, List.getElem?_eq_getElem (show i + j < X.length by omega)]
  · rw [List.getElem?_eq_none (by simp; omega), List.getElem?_eq_none (by simp; omega)]
theorem get_getD {X : List Nat} {i : Nat} (h : i < X.length) : X[i]? = some (X.getD i 0) := by
  rw [List.getD_eq_getElem?_getD, List.getElem?_eq_getElem h]; rfl
theorem ix_neg {ds : List D} {n : Nat} {d : D} {i : Int} (hi : i = -(n : Int) - 1) (hn : n < ds.length) (h : ds[ds.length - 1 - n]? = some d) : ixD (.list ds) (.int i) = some d := by
  have e : ixN ds.length i = some (ds.length - 1 - n) := by
    unfold ixN
    rw [if_neg (by omega), if_pos (by omega)]
    congr 1
    omega
  show L2.atI ds i = _
  unfold L2.atI
  rw [e]
  exact h
theorem str_eqv (x y : Str) : PyData.eqv (.str x) (.str y) = decide (x = y) := by
  rw [PyData.eqv]
  by_cases h : x = y <;> simp [h]
theorem int_eqv (x y : Int) : PyData.eqv (.int x) (.int y) = decide (x = y) := by
  rw [PyData.eqv]
  by_cases h : x = y <;> simp [h]
theorem sy_eqv (x y : Sy) : PyData.eqv x.d y.d = decide (x = y) := by
  have hlp : ¬ (("letter" : String) : Str) = (("pair" : String) : Str) := by decide +kernel
  have hpl : ¬ (("pair" : String) : Str) = (("letter" : String) : Str) := by decide +kernel
  cases x with
  | L c =>
    cases y with
    | L c' =>
      show PyData.eqv (.tuple [.str ("letter" : String), .str (txS [c])]) (.tuple [.str ("letter" : String), .str (txS [c'])]) = _
      rw [PyData.eqv, PyData.eqvAll, PyData.eqvAll, PyData.eqvAll, str_eqv, str_eqv]
      by_cases h : c = c'
      · subst h; simp
      · have h2 : ¬ txS [c] = txS [c'] := fun z => h (by have := txS_inj z; simpa using this)
        simp [h, h2]
    | P i j =>
      show PyData.eqv (.tuple [.str ("letter" : String), .str (txS [c])]) (.tuple [.str ("pair" : String), .int i, .int j]) = _
      rw [PyData.eqv, PyData.eqvAll, str_eqv, decide_eq_false hlp]
      simp
  | P i j =>
    cases y with
    | L c' =>
      show PyData.eqv (.tuple [.str ("pair" : String), .int i, .int j]) (.tuple [.str ("letter" : String), .str (txS [c'])]) = _
      rw [PyData.eqv, PyData.eqvAll, str_eqv, decide_eq_false hpl]
      simp
    | P i' j' =>
      show PyData.eqv (.tuple [.str ("pair" : String), .int i, .int j]) (.tuple [.str ("pair" : String), .int i', .int j']) = _
      rw [PyData.eqv, PyData.eqvAll, PyData.eqvAll, PyData.eqvAll, PyData.eqvAll, str_eqv, int_eqv, int_eqv]
      by_cases h : i = i'
      · subst h
        by_cases h' : j = j'
        · subst h'; simp
        · have : ¬ ((j : Int) = (j' : Int)) := by omega
          simp [h', this]
      · have : ¬ ((i : Int) = (i' : Int)) := by omega
        simp [h, this]
def Sml (s : List Sy) : Prop := ∀ x ∈ s, match x with | .L c => c < 128 | .P i j => i < 10000 ∧ j < 10000
theorem sm_sy {x : Sy} (h : match x with | .L c => c < 128 | .P i j => i < 10000 ∧ j < 10000) : Sm 1000 1 x.d := by
  have o1 : PyData.strOk (("letter" : String) : Str) = true := by decide +kernel
  have o2 : PyData.strOk (("pair" : String) : Str) = true := by decide +kernel
  have l1 : (("letter" : String) : Str).length = 6 := by decide +kernel
  have l2 : (("pair" : String) : Str).length = 4 := by decide +kernel
  cases x with
  | L c =>
    have := Sm.tuple (w := 64) (dp := 0) (ds := [.str ("letter" : String), .str (txS [c])]) (by
      intro d hd
      simp only [List.mem_cons, List.not_mem_nil, or_false] at hd
      rcases hd with rfl | rfl
      · exact (Sm.str o1).mono (by omega) (by omega)
      · exact (Sm.str (strOk_low (by intro c' hc'; simp at hc'; subst hc'; exact h))).mono (by rw [txS_length]; simp) (by omega))
    exact this.mono (by simp) (by omega)
  | P i j =>
    have := Sm.tuple (w := 64) (dp := 0) (ds := [.str ("pair" : String), .int i, .int j]) (by
      intro d hd
      simp only [List.mem_cons, List.not_mem_nil, or_false] at hd
      rcases hd with rfl | rfl | rfl
      · exact (Sm.str o2).mono (by omega) (by omega)
      · exact (Sm.int (n := i) (by omega)).mono (by omega) (by omega)
      · exact (Sm.int (n := j) (by omega)).mono (by omega) (by omega))
    exact this.mono (by simp) (by omega)
theorem sml_shaped {s : List Sy} (h : Sml s) : SeqAt.shaped (sy s) = true := by
  refine (Sm.list (w := 1000) (dp := 1) (ds := s.map Sy.d) ?_).shaped (by omega)
  intro d hd
  obtain ⟨x, hx, rfl⟩ := List.mem_map.mp hd
  exact sm_sy (h x hx)
theorem wf_sml {s : List Sy} (w : WF s) (hz : s.length < 10000) : Sml s := by
  intro x hx
  obtain ⟨k, hk⟩ := List.getElem?_of_mem hx
  cases x with
  | L c => exact w.let' c hx
  | P i j =>
    have := w.pair k i j hk
    have := lt_of_get hk
    show i < 10000 ∧ j < 10000
    omega
theorem pin {s : List Sy} (h : Sml s) {i j : Nat} (hi : i < 10000) (hj : j < 10000) : notInD (.tuple [.str ("pair" : String), .int i, .int j]) (sy s) = some (.bool (!decide (Sy.P i j ∈ s))) := by
  have e : inB (.tuple [.str ("pair" : String), .int i, .int j]) (sy s) = some ((s.map Sy.d).any fun z => PyData.eqv z (Sy.P i j).d) := by
    have h1 := (sm_sy (x := .P i j) ⟨hi, hj⟩).shaped (by omega)
    have h2 := sml_shaped h
    show (if (SeqAt.shaped (Sy.P i j).d && SeqAt.shaped (sy s)) = true then _ else _) = _
    rw [h1, h2]
    rfl
  have e2 : ((s.map Sy.d).any fun z => PyData.eqv z (Sy.P i j).d) = decide (Sy.P i j ∈ s) := by
    rw [List.any_map]
    by_cases hm : Sy.P i j ∈ s
    · rw [decide_eq_true hm, List.any_eq_true]
      exact ⟨_, hm, by simp [sy_eqv]⟩
    · rw [decide_eq_false hm, List.any_eq_false]
      intro x hx
      simp only [Function.comp_apply, sy_eqv, decide_eq_true_eq]
      intro e
      exact hm (e ▸ hx)
  unfold notInD
  rw [e, e2]
  rfl
theorem pindex {s : List Sy} (h : Sml s) {i j : Nat} (hm : Sy.P i j ∈ s) : ∃ k, s[k]? = some (Sy.P i j) ∧ indexD (sy s) [.tuple [.str ("pair" : String), .int i, .int j]] = some (.int (k : Nat)) := by
  have h1 := (sm_sy (x := .P i j) (h _ hm)).shaped (by omega)
  have h2 := sml_shaped h
  have e2 : ((s.map Sy.d).findIdx? fun z => PyData.eqv z (Sy.P i j).d) = s.findIdx? fun z => decide (z = Sy.P i j) := by
    rw [List.findIdx?_map]
    congr 1
    funext z
    exact sy_eqv z (Sy.P i j)
  cases hf : s.findIdx? fun z => decide (z = Sy.P i j) with
  | none =>
    rw [List.findIdx?_eq_none_iff] at hf
    have := hf _ hm
    simp at this
  | some k =>
    obtain ⟨hk, h3, _⟩ := List.findIdx?_eq_some_iff_getElem.mp hf
    refine ⟨k, ?_, ?_⟩
    · rw [List.getElem?_eq_getElem hk]
      have : s[k] = Sy.P i j := by simpa using h3
      rw [this]
    · show (if (SeqAt.shaped (sy s) && SeqAt.shaped (Sy.P i j).d) = true then Option.map (fun j => PyData.int j) (do let a ← (s.map Sy.d).findIdx? (fun z => PyData.eqv z (Sy.P i j).d); pure (a : Int)) else none) = _
      rw [h1, h2, e2, hf]
      rfl
theorem pput {s : List Sy} (wf : WF s) (hz : s.length < 9000) {i j : Nat} (hi : i < s.length) (hj : j < s.length) :
    ∃ (s' : List Sy) (b : Bool) (k : Nat), notInD (.tuple [.str ("pair" : String), .int i, .int j]) (sy s) = some (.bool b) ∧ (if b = true then s.map Sy.d ++ [.tuple [.str ("pair" : String), .int i, .int j]] else s.map Sy.d) = s'.map Sy.d ∧
      indexD (sy s') [.tuple [.str ("pair" : String), .int i, .int j]] = some (.int (k : Nat)) ∧ WF s' ∧ k < s'.length ∧ s.length ≤ s'.length ∧ s'.length ≤ s.length + 1 ∧ (∀ n, n < s.length → tx s' n = tx s n) ∧ tx s' k = tx s i ++ tx s j := by
  have hp := pin (wf_sml wf (by omega)) (i := i) (j := j) (by omega) (by omega)
  by_cases hm : Sy.P i j ∈ s
  · obtain ⟨k, h1, h2⟩ := pindex (wf_sml wf (by omega)) hm
    exact ⟨s, false, k, by rw [hp, decide_eq_true hm]; rfl, rfl, h2, wf, lt_of_get h1, Nat.le_refl _, Nat.le_succ _, fun _ _ => rfl, tx_P wf h1⟩
  · have wf' : WF (s ++ [.P i j]) := wf.snoc (x := .P i j) ⟨hi, hj⟩
    obtain ⟨k, h1, h2⟩ := pindex (wf_sml wf' (by simp; omega)) (i := i) (j := j) (by simp)
    refine ⟨s ++ [.P i j], true, k, by rw [hp, decide_eq_false hm]; rfl, ?_, h2, wf', lt_of_get h1, by simp, by simp, fun n hn => tx_app1 hn, ?_⟩
    · rw [if_pos rfl, List.map_append]
      rfl
    · rw [tx_P wf' h1, tx_app1 hi, tx_app1 hj]
theorem s_abc : (("abc" : String) : Str) = txS [97, 98, 99] := by decide +kernel
theorem s_c : (("c" : String) : Str) = txS [99] := by decide +kernel
theorem sidx {c : Nat} (h : c < 3) : sindexD (.str ("abc" : String)) [.str (txS [97 + c])] = some (.int (c : Nat)) := by
  have o : ∀ c < 3, Builtin.Str.occurrences (("abc" : String) : Str) (txS [97 + c]) 0 (("abc" : String) : Str).length 1 = [c] := by decide +kernel
  unfold sindexD
  simp only [o c h]
theorem ix_abc {c : Nat} (h : c < 3) : ixD (.str ("abc" : String)) (.int (c : Int)) = some (.str (txS [97 + c])) := by
  rw [s_abc]
  match c, h with
  | 0, _ => exact ix_str (n := 0) (sz_ge (by decide)) rfl
  | 1, _ => exact ix_str (n := 1) (sz_ge (by decide)) rfl
  | 2, _ => exact ix_str (n := 2) (sz_ge (by decide)) rfl
theorem mul_tx {T : List Nat} (hT : T.length ≤ 9) {n : Nat} (hn : n ≤ 26) : mulG (.str (txS T)) (.int (n : Int)) = some (.str (txS (rp T n))) := by
  have h1 : T.length * n ≤ 9 * 26 := Nat.mul_le_mul hT hn
  show (if 0 ≤ (n : Int) ∧ (txS T).length * ((n : Int)).toNat ≤ 1000000 ∧ (n : Int) ≤ 1000000 then some (PyData.str (repS (txS T) ((n : Int)).toNat)) else none) = _
  rw [txS_length, Int.toNat_natCast, if_pos ⟨by omega, by omega, by omega⟩]
  unfold repS
  rw [tx_list]
  rfl
theorem cut_both {α : Type} (xs : List α) {a b : Nat} (h : a ≤ b) : cut xs (some (a : Int)) (some (b : Int)) = (xs.drop a).take (b - a) := by
  have e : ¬ ((a : Int) < 0) := by omega
  have e' : ¬ ((b : Int) < 0) := by omega
  simp only [cut, HT.sIx, if_neg e, if_neg e', Int.toNat_natCast]
  by_cases ha : a ≤ xs.length
  · rw [Nat.min_eq_left ha]
    by_cases hb : b ≤ xs.length
    · rw [Nat.min_eq_left hb]
    · rw [Nat.min_eq_right (by omega), List.take_of_length_le (by simp), List.take_of_length_le (by simp; omega)]
  · rw [Nat.min_eq_right (show xs.length ≤ a by omega), List.drop_of_length_le (Nat.le_refl _), List.drop_of_length_le (by omega)]
    simp
theorem sl_both {t : List Nat} {a b : Nat} (h : t.length ≤ sizeLine) (hab : a ≤ b) : slD (.str (txS t)) (some (a : Int)) (some (b : Int)) = some (.str (txS ((t.drop a).take (b - a)))) := by
  have h' : (txS t).length ≤ sizeLine := by rw [txS_length]; exact h
  show (if (txS t).length ≤ sizeLine then some (PyData.str ⟨(cut (txS t).cps.toList (some (a : Int)) (some (b : Int))).toArray⟩) else none) = _
  rw [if_pos h', tx_list, cut_both _ hab]
  rfl
theorem eq_txt (x y : List Nat) : eqD (.str (txS x)) (.str (txS y)) = some (.bool (decide (x = y))) := by
  show some (PyData.bool (decide (txS x = txS y))) = _
  by_cases h : x = y
  · subst h; simp
  · have h2 : ¬ txS x = txS y := fun z => h (txS_inj z)
    rw [decide_eq_false h, decide_eq_false h2]
theorem mul_ok {i j : Int} (h : CMul i j) : mulG (.int i) (.int j) = some (.int (i * j)) := if_pos h
theorem m2_ok {f : D → D → Option D} {ma mb : Env' → Res D} {env : Env'} {x y z : D} (ha : ma env = .ok x) (hb : mb env = .ok y) (h : f x y = some z) : m2 f ma mb env = .ok z := by
  rw [ap_m2, ha, Res.bind_ok, hb, Res.bind_ok, h]; rfl
theorem ret_ok {m : Env' → Res D} {env : Env'} {d : D} (h : m env = .ok d) : oRet m env = .rt d := by
  rw [ap_ret, h]; rfl
theorem var_ok {i : Nat} {env : Env'} {d : D} (h : env[i]? = some (some d)) : mVar i env = .ok d := by
  rw [ap_var, h]
theorem m3_ok {g : D → Option Int → Option Int → Option D} {ma : Env' → Res D} {ml mh : Env' → Res (Option Int)} {env : Env'} {x z : D} {l h : Option Int} (ha : ma env = .ok x) (hl : ml env = .ok l) (hh : mh env = .ok h) (e : g x l h = some z) : m3 g ma ml mh env = .ok z := by
  rw [ap_m3, ha, Res.bind_ok, hl, Res.bind_ok, hh, Res.bind_ok, e]; rfl
theorem part_ok {m : Env' → Res D} {env : Env'} {i : Int} (h : m env = .ok (.int i)) : mPart m env = .ok (some i) := by
  rw [ap_part, h]; rfl
theorem b_ok {m : Env' → Res D} {env : Env'} {b : Bool} (h : m env = .ok (.bool b)) : mB m env = .ok b := by
  rw [ap_mB, h]; rfl
theorem not_ok {nb : Env' → Res Bool} {env : Env'} {b : Bool} (h : nb env = .ok b) : bNot nb env = .ok (!b) := by
  rw [ap_not, h]; rfl
theorem or_f {nb nc : Env' → Res Bool} {env : Env'} {b : Bool} (h : nb env = .ok false) (h2 : nc env = .ok b) : bOr nb nc env = .ok b := by
  rw [ap_or, h, Res.bind_ok, if_neg (by decide), h2]
theorem oif_f {nc : Env' → Res Bool} {o1 o2 : Env' → Out} {env : Env'} (h : nc env = .ok false) : oIf nc o1 o2 env = o2 env := by
  rw [ap_oif, h]; rfl
theorem lc_cnt {mi : Env' → Res (List D)} {v : Nat} {nc : Env' → Res Bool} {vs : List Nat} {env : Env'} {n : Nat} (q : Nat → Bool) (hi : mi env = .ok (rng 0 n)) (hz : n ≤ 16777216) (hv : v < (wipeE env vs).length)
    (h : ∀ k, k < n → nc ((wipeE env vs).set v (some (.int (k : Nat)))) = .ok (q k)) : ∃ ds, mLc mi (gN v) nc (mVar v) vs env = .ok (.list ds) ∧ ds.length = cnt q n := by
  let p : D → Bool := fun d => match d with | .int i => q i.toNat | _ => false
  have h1 := lc_map (v := v) (m := mVar v) (nc := nc) (env := wipeE env vs) p id (ds := rng 0 n) (by
    intro d hd
    obtain ⟨k, hk, rfl⟩ := rng_mem hd
    rw [Int.zero_add]
    refine ⟨by rw [h k hk]; rfl, fun _ => ?_⟩
    rw [ap_var, List.getElem?_set_self hv]
    rfl)
  have hl : (((rng 0 n).filter p).map id).length = cnt q n := by
    rw [List.length_map]
    unfold rng cnt
    rw [List.filter_map, List.length_map]
    congr 1
    refine List.filter_congr fun k _ => ?_
    show q (0 + (k : Int)).toNat = q k
    congr 1
    omega
  refine ⟨_, ?_, hl⟩
  rw [ap_lc, hi, Res.bind_ok, h1, ap_noX, Res.bind_ok, if_pos]
  have h2 : cnt q n ≤ n := by
    have := List.length_filter_le q (List.range n)
    rw [List.length_range] at this
    exact this
  exact sz_ge (by omega)
def fbT : Nat → List Nat
  | 0 => [98]
  | 1 => [97]
  | k + 2 => fbT (k + 1) ++ fbT k
def fbN : Nat → Nat
  | 0 => 1
  | 1 => 1
  | k + 2 => fbN (k + 1) + fbN k
theorem fbT_len2 : ∀ k, (fbT k).length = fbN k ∧ (fbT (k + 1)).length = fbN (k + 1)
  | 0 => ⟨rfl, rfl⟩
  | k + 1 => by
    obtain ⟨h1, h2⟩ := fbT_len2 k
    refine ⟨h2, ?_⟩
    show (fbT (k + 1) ++ fbT k).length = fbN (k + 1) + fbN k
    rw [List.length_append, h1, h2]
theorem fbT_len (k : Nat) : (fbT k).length = fbN k := (fbT_len2 k).1
theorem fbN_pos2 : ∀ k, 0 < fbN k ∧ 0 < fbN (k + 1)
  | 0 => ⟨by decide, by decide⟩
  | k + 1 => by
    obtain ⟨h1, h2⟩ := fbN_pos2 k
    refine ⟨h2, ?_⟩
    show 0 < fbN (k + 1) + fbN k
    omega
theorem fbN_pos (k : Nat) : 0 < fbN k := (fbN_pos2 k).1
def fbs : Nat → List Sy
  | 0 => [.L 98, .L 97]
  | k + 1 => fbs k ++ [.P (k + 1) k]
theorem fbs_len : ∀ k, (fbs k).length = k + 2
  | 0 => rfl
  | k + 1 => by simp [fbs, fbs_len k]
theorem fbs_wf : ∀ k, WF (fbs k)
  | 0 => (WF.nil.snoc (x := .L 98) (by decide)).snoc (x := .L 97) (by decide)
  | k + 1 => by
    have h := fbs_len k
    exact (fbs_wf k).snoc (x := .P (k + 1) k) ⟨by omega, by omega⟩
theorem fbs_tx : ∀ m k, k < m + 2 → tx (fbs m) k = fbT k
  | 0, 0, _ => rfl
  | 0, 1, _ => rfl
  | m + 1, k, h => by
    have hl := fbs_len m
    by_cases hk : k < m + 2
    · show tx (fbs m ++ [.P (m + 1) m]) k = _
      rw [tx_app1 (by omega)]
      exact fbs_tx m k hk
    · obtain rfl : k = m + 2 := by omega
      show tx (fbs m ++ [.P (m + 1) m]) (m + 2) = _
      have := tx_new (fbs_wf (m + 1)) (i := m + 1) (j := m) (by omega) (by omega)
      rw [hl] at this
      rw [this, fbs_tx m (m + 1) (by omega), fbs_tx m m (by omega)]
      rfl
theorem fbs_d : ∀ m, (fbs m).map Sy.d = [Sy.d (.L 98), Sy.d (.L 97)] ++ (List.range m).map fun k : Nat => PyData.tuple [.str ("pair" : String), .int ((k : Int) + 1), .int k]
  | 0 => rfl
  | m + 1 => by
    rw [fbs, List.map_append, fbs_d m, List.range_succ, List.map_append, List.append_assoc]
    rfl
def zcell (w t : List Nat) (m : Nat) : Nat × Bool := (KM.st w m t, decide (KM.ct w m t = 0))
def ztab (w t : List Nat) : List (Nat × Bool) := (List.range (w.length + 1)).map (zcell w t)
def zcmp (A B : List (Nat × Bool)) : List (Nat × Bool) := A.map fun p => ((B.getD p.1 (0, false)).1, p.2 && (B.getD p.1 (0, false)).2)
theorem ztab_get {w t : List Nat} {m : Nat} (h : m ≤ w.length) : (ztab w t).getD m (0, false) = zcell w t m := by
  unfold ztab
  rw [List.getD_eq_getElem?_getD, List.getElem?_map, List.getElem?_range (by omega)]
  rfl
theorem ztab_app (w t u : List Nat) : ztab w (t ++ u) = zcmp (ztab w t) (ztab w u) := by
  show ztab w (t ++ u) = ((List.range (w.length + 1)).map (zcell w t)).map fun p => (((ztab w u).getD p.1 (0, false)).1, p.2 && ((ztab w u).getD p.1 (0, false)).2)
  rw [List.map_map]
  refine List.map_congr_left fun m hm => ?_
  rw [List.mem_range] at hm
  have hm' : m ≤ w.length := by omega
  simp only [Function.comp_apply]
  rw [show (zcell w t m).1 = KM.st w m t from rfl, ztab_get (KM.st_le w m t)]
  unfold zcell
  rw [KM.st_app, KM.ct_app w t m u hm']
  congr 1
  by_cases h1 : KM.ct w m t = 0
  · by_cases h2 : KM.ct w (KM.st w m t) u = 0
    · simp [h1, h2]
    · simp [h1, h2]
  · have : ¬ (KM.ct w m t + KM.ct w (KM.st w m t) u = 0) := by omega
    simp [h1]
def iter {α : Type} (F : α → α) : Nat → α → List α
  | 0, _ => []
  | n + 1, x => x :: iter F n (F x)
theorem orb {α : Type} {F : α → α} {x : Nat → α} (hx : ∀ k, x (k + 1) = F (x k)) {L : List α} (h0 : x 0 ∈ L) (hc : ∀ y ∈ L, F y ∈ L) : ∀ k, x k ∈ L
  | 0 => h0
  | k + 1 => by rw [hx]; exact hc _ (orb hx h0 hc k)
theorem ct_one {c : Nat} : ∀ (t : List Nat) (m : Nat), m ≤ 1 → KM.ct [c] m t = (t.filter fun x => decide (x = c)).length := by
  intro t
  induction t with
  | nil => intro m _; rfl
  | cons x t ih =>
    intro m hm
    rw [KM.ct, ih _ (KM.st_le [c] m [x]), List.filter_cons]
    have e : KM.st [c] m [x] = [c].length ↔ x = c := by
      unfold KM.st
      rw [KM.st_full, KM.suf_app]
      constructor
      · rintro (h | ⟨Y, h, _⟩)
        · have := h.eq_of_length rfl
          injection this with h; exact h.symm
        · have h' := congrArg List.length h
          simp at h'
          subst h'
          injection h with h; exact h.symm
      · rintro rfl; exact .inl (List.suffix_refl _)
    by_cases h : x = c
    · rw [if_pos (e.mpr h), decide_eq_true h]; simp; omega
    · rw [if_neg (fun z => h (e.mp z)), decide_eq_false h]; simp
theorem lx0 {a b : D} : ixD (.list [a, b]) (.int 0) = some a := ix_nat (n := 0) rfl
theorem lx1 {a b : D} : ixD (.list [a, b]) (.int 1) = some b := ix_nat (n := 1) rfl
theorem isi_int {i : Int} : isiD "int" (.int i) = some (.bool true) := by
  show (kitB "int" "int").map PyData.bool = _
  exact congrArg (fun o => Option.map PyData.bool o) (by decide +kernel : kitB "int" "int" = some true)
theorem isi_str {x : Str} : isiD "int" (.str x) = some (.bool false) := by
  show (kitB "str" "int").map PyData.bool = _
  exact congrArg (fun o => Option.map PyData.bool o) (by decide +kernel : kitB "str" "int" = some false)
theorem pick3 {a b c l : Int} {n : Nat} (hl : 0 ≤ l ∧ l < 3) (ha : 0 ≤ a ∧ a < n) (hb : 0 ≤ b ∧ b < n) (hc : 0 ≤ c ∧ c < n) : ∃ i : Nat, i < n ∧ ixD (.list [.int a, .int b, .int c]) (.int l) = some (.int i) := by
  obtain ⟨k, rfl, hk⟩ := int_in (n := 3) hl
  obtain ⟨a, rfl, ha2⟩ := int_in ha
  obtain ⟨b, rfl, hb2⟩ := int_in hb
  obtain ⟨c, rfl, hc2⟩ := int_in hc
  match k, hk with
  | 0, _ => exact ⟨a, ha2, ix_nat rfl⟩
  | 1, _ => exact ⟨b, hb2, ix_nat rfl⟩
  | 2, _ => exact ⟨c, hc2, ix_nat rfl⟩
theorem letters4 {v : Int} : ∃ cs : List Nat, ixD (.list [.str ("ab" : String), .str ("abc" : String), .str ("a" : String), .str ("x ~" : String)]) (.int (v % 4)) = some (.str (txS cs)) ∧ 0 < cs.length ∧ cs.length ≤ 4 ∧ ∀ c ∈ cs, c < 128 := by
  obtain ⟨k, hk, hk4⟩ := mod_nat v (n := 4) (by omega)
  rw [show ((4 : Nat) : Int) = 4 from rfl] at hk
  rw [hk]
  have e1 : (("ab" : String) : Str) = txS [97, 98] := by decide +kernel
  have e2 : (("abc" : String) : Str) = txS [97, 98, 99] := by decide +kernel
  have e3 : (("a" : String) : Str) = txS [97] := by decide +kernel
  have e4 : (("x ~" : String) : Str) = txS [120, 32, 126] := by decide +kernel
  rw [e1, e2, e3, e4]
  match k, hk4 with
  | 0, _ => exact ⟨_, ix_nat rfl, by decide, by decide, by decide⟩
  | 1, _ => exact ⟨_, ix_nat rfl, by decide, by decide, by decide⟩
  | 2, _ => exact ⟨_, ix_nat rfl, by decide, by decide, by decide⟩
  | 3, _ => exact ⟨_, ix_nat rfl, by decide, by decide, by decide⟩
theorem walk_tx (cs : List Nat) : walkD (.str (txS cs)) = .ok (cs.map fun c => .str (txS [c])) := by simp [walkD, txS]
end DL

namespace K48
open PySem PySem.Spec L2 DL
abbrev li (ns : List Int) : D := .list (ns.map .int)
theorem ix_li {ns : List Int} {i : Int} {n : Nat} {v : Int} (hi : i = n) (h : ns[n]? = some v) : ixD (li ns) (.int i) = some (.int v) := ix_int hi (by simp [h])
theorem mod_nat (a : Int) {n : Nat} (h : 0 < n) : ∃ k : Nat, a % (n : Int) = k ∧ k < n := by
  have h0 := Int.emod_nonneg a (show (n : Int) ≠ 0 by omega)
  have h1 := Int.emod_lt_of_pos a (show (0 : Int) < (n : Int) by omega)
  obtain ⟨k, hn⟩ := Int.eq_ofNat_of_zero_le h0
  exact ⟨k, hn, by omega⟩
theorem drawn_ok {ns : List Int} {a : Int} (h : 0 < ns.length) : ∃ v ∈ ns, m__law_drawn [li ns, .int a] = .ok (.int v) := by
  have hp : (0 : Int) < (ns.length : Int) := by omega
  obtain ⟨n, hn, hl⟩ := mod_nat a h
  refine ⟨ns[n], List.getElem_mem hl, ?_⟩
  refine run_rt ?_
  simp only [o__law_drawn, ap_var, ap_c, ap_m1, ap_m2, ap_m3, ap_part, ap_nopart, ap_if, ap_isN, ap_notN, ap_list, ap_tup, ap_nil, ap_cons, ap_cb, ap_m1m, ap_chain, ap_isi, ap_mB, ap_asB, ap_and, ap_or, ap_not, ap_yes, ap_call, ap_lc, ap_noX, ap_iseq, ap_iown, ap_seq, th_nx, th_rt, th_exc, ap_skip, ap_set, ap_asg, ap_aug, ap_lm, ap_put, ap_oif, ap_ret, ap_drop, ap_raise, ap_gN, ap_gT, ap_gsN, ap_gsC, ap_app, Res.bind_ok, Res.bind_exc, Res.of_some, exOut_ok, exOut_exc, wipeE, Option.bind_some, List.length_cons, List.length_nil, List.getElem?_cons_zero, List.getElem?_cons_succ, List.set_cons_zero, List.set_cons_succ, List.map_cons, List.map_nil, addD, subD, cmpI, negD, modD, ap_lenL, ap_lenT, intD, int1, int2, walkD, if_true, if_false, decide_eq_true_eq, Bool.false_eq_true, reduceIte, Nat.reduceAdd, Nat.reduceSub, List.replicate_succ, List.replicate_zero, List.cons_append, List.nil_append, List.length_map, hp, hn]
  rw [ix_nat (n := n) (d := .int ns[n]) (by simp [hl])]
  simp only [ap_var, ap_c, ap_m1, ap_m2, ap_m3, ap_part, ap_nopart, ap_if, ap_isN, ap_notN, ap_list, ap_tup, ap_nil, ap_cons, ap_cb, ap_m1m, ap_chain, ap_isi, ap_mB, ap_asB, ap_and, ap_or, ap_not, ap_yes, ap_call, ap_lc, ap_noX, ap_iseq, ap_iown, ap_seq, th_nx, th_rt, th_exc, ap_skip, ap_set, ap_asg, ap_aug, ap_lm, ap_put, ap_oif, ap_ret, ap_drop, ap_raise, ap_gN, ap_gT, ap_gsN, ap_gsC, ap_app, Res.bind_ok, Res.bind_exc, Res.of_some, exOut_ok, exOut_exc, wipeE, Option.bind_some, List.length_cons, List.length_nil, List.getElem?_cons_zero, List.getElem?_cons_succ, List.set_cons_zero, List.set_cons_succ, List.map_cons, List.map_nil, addD, subD, cmpI, negD, modD, ap_lenL, ap_lenT, intD, int1, int2, walkD, if_true, if_false, decide_eq_true_eq, Bool.false_eq_true, reduceIte, Nat.reduceAdd, Nat.reduceSub, List.replicate_succ, List.replicate_zero, List.cons_append, List.nil_append]
abbrev Ok16 (v : Int) : Prop := 0 ≤ v ∧ v < 65536
theorem numbers_ok (N : Nat) (hN : N ≤ 5000) (ns : List Int) (hl : ns.length ≤ 63) : ∃ xs : List Int, m__law_numbers [li ns, .int N] = .ok (li xs) ∧ xs.length = N ∧ ∀ v ∈ xs, Ok16 v := by
  have hcut : cut (ns.map PyData.int) none (some 63) = ns.map .int := cut_all _ 63 (by simpa using hl)
  let ab : D → D := fun d => match d with | .int i => .int (if i < 0 then -i else i) | d => d
  have habs : (ns.map PyData.int).map ab = (ns.map fun i => if i < 0 then -i else i).map .int := by simp [ab]
  suffices H : ∃ x, o__law_numbers [some (li ns), some (.int N), none, none, none, none, none, none] = x ∧ ∃ xs : List Int, x = .rt (li xs) ∧ xs.length = N ∧ ∀ v ∈ xs, Ok16 v by
    obtain ⟨x, h0, xs, h1, h2⟩ := H
    exact ⟨xs, run_rt (h0.trans h1), h2⟩
  unfold o__law_numbers
  -- rest
  let as := ns.map fun i => if i < 0 then -i else i
  have ha : ∀ v ∈ as, 0 ≤ v := by
    intro v hv
    obtain ⟨i, _, rfl⟩ := List.mem_map.mp hv
    split <;> omega
  have hal : as.length = ns.length := by simp [as]
  obtain ⟨r0, hr0, hrl, hrz, e2⟩ : ∃ r0 : List Int, (∀ v ∈ r0, 0 ≤ v) ∧ 0 < r0.length ∧ r0.length ≤ 64 ∧ oIf (mB (m2 gtI (mCB lenD (aCons (mVar 0) aNil)) (mC (.int 0)))) (oSet 2 (m3 slLD (mVar 2) mNoPart (mPart (m1 negD (mC (.int 1)))))) oSkip [some (li ns), some (.int N), some (li (as ++ [0])), none, none, none, none, none]
      = .nx [some (li ns), some (.int N), some (li r0), none, none, none, none, none] := by
    by_cases hz : 0 < ns.length
    · refine ⟨as, ha, by omega, by omega, ?_⟩
      have hz' : (0 : Int) < (ns.length : Int) := by omega
      have hc : cut ((as ++ [0]).map PyData.int) none (some (-1)) = as.map .int := by
        simp [cut, HT.sIx]
        rw [show (-1 + ((as.length : Int) + 1)).toNat = (as.map PyData.int).length by simp; omega]
        exact List.take_left
      simp only [ap_var, ap_c, ap_m1, ap_m2, ap_m3, ap_part, ap_nopart, ap_if, ap_isN, ap_notN, ap_list, ap_tup, ap_nil, ap_cons, ap_cb, ap_m1m, ap_chain, ap_isi, ap_mB, ap_asB, ap_and, ap_or, ap_not, ap_yes, ap_call, ap_lc, ap_noX, ap_iseq, ap_iown, ap_seq, th_nx, th_rt, th_exc, ap_skip, ap_set, ap_asg, ap_aug, ap_lm, ap_put, ap_oif, ap_ret, ap_drop, ap_raise, ap_gN, ap_gT, ap_gsN, ap_gsC, ap_app, Res.bind_ok, Res.bind_exc, Res.of_some, exOut_ok, exOut_exc, wipeE, Option.bind_some, List.length_cons, List.length_nil, List.getElem?_cons_zero, List.getElem?_cons_succ, List.set_cons_zero, List.set_cons_succ, List.map_cons, List.map_nil, addD, subD, cmpI, negD, modD, ap_lenL, ap_lenT, intD, int1, int2, walkD, if_true, if_false, decide_eq_true_eq, Bool.false_eq_true, reduceIte, Nat.reduceAdd, Nat.reduceSub, List.replicate_succ, List.replicate_zero, List.cons_append, List.nil_append, List.length_map, hz', decide_true, slLD, hc]
    · refine ⟨as ++ [0], ?_, by simp, by simp; omega, ?_⟩
      · intro v hv
        rcases List.mem_append.mp hv with h | h
        · exact ha v h
        · simp at h; omega
      · have hz' : ¬ (0 : Int) < (ns.length : Int) := by omega
        simp only [ap_var, ap_c, ap_m1, ap_m2, ap_m3, ap_part, ap_nopart, ap_if, ap_isN, ap_notN, ap_list, ap_tup, ap_nil, ap_cons, ap_cb, ap_m1m, ap_chain, ap_isi, ap_mB, ap_asB, ap_and, ap_or, ap_not, ap_yes, ap_call, ap_lc, ap_noX, ap_iseq, ap_iown, ap_seq, th_nx, th_rt, th_exc, ap_skip, ap_set, ap_asg, ap_aug, ap_lm, ap_put, ap_oif, ap_ret, ap_drop, ap_raise, ap_gN, ap_gT, ap_gsN, ap_gsC, ap_app, Res.bind_ok, Res.bind_exc, Res.of_some, exOut_ok, exOut_exc, wipeE, Option.bind_some, List.length_cons, List.length_nil, List.getElem?_cons_zero, List.getElem?_cons_succ, List.set_cons_zero, List.set_cons_succ, List.map_cons, List.map_nil, addD, subD, cmpI, negD, modD, ap_lenL, ap_lenT, intD, int1, int2, walkD, if_true, if_false, decide_eq_true_eq, Bool.false_eq_true, reduceIte, Nat.reduceAdd, Nat.reduceSub, List.replicate_succ, List.replicate_zero, List.cons_append, List.nil_append, List.length_map, hz', decide_false]
  refine seq_ex (e := [some (li ns), some (.int N), some (li (as ++ [0])), none, none, none, none, none]) ?_ (seq_ex e2 ?_)
  · simp only [ap_var, ap_c, ap_m1, ap_m2, ap_m3, ap_part, ap_nopart, ap_if, ap_isN, ap_notN, ap_list, ap_tup, ap_nil, ap_cons, ap_cb, ap_m1m, ap_chain, ap_isi, ap_mB, ap_asB, ap_and, ap_or, ap_not, ap_yes, ap_call, ap_lc, ap_noX, ap_iseq, ap_iown, ap_seq, th_nx, th_rt, th_exc, ap_skip, ap_set, ap_asg, ap_aug, ap_lm, ap_put, ap_oif, ap_ret, ap_drop, ap_raise, ap_gN, ap_gT, ap_gsN, ap_gsC, ap_app, Res.bind_ok, Res.bind_exc, Res.of_some, exOut_ok, exOut_exc, wipeE, Option.bind_some, List.length_cons, List.length_nil, List.getElem?_cons_zero, List.getElem?_cons_succ, List.set_cons_zero, List.set_cons_succ, List.map_cons, List.map_nil, addD, subD, cmpI, negD, modD, ap_lenL, ap_lenT, intD, int1, int2, walkD, if_true, if_false, decide_eq_true_eq, Bool.false_eq_true, reduceIte, Nat.reduceAdd, Nat.reduceSub, List.replicate_succ, List.replicate_zero, List.cons_append, List.nil_append, slD, hcut]
    rw [lc_all ab (by
      intro d hd
      obtain ⟨i, _, rfl⟩ := List.mem_map.mp hd
      simp only [ap_var, ap_c, ap_m1, ap_m2, ap_m3, ap_part, ap_nopart, ap_if, ap_isN, ap_notN, ap_list, ap_tup, ap_nil, ap_cons, ap_cb, ap_m1m, ap_chain, ap_isi, ap_mB, ap_asB, ap_and, ap_or, ap_not, ap_yes, ap_call, ap_lc, ap_noX, ap_iseq, ap_iown, ap_seq, th_nx, th_rt, th_exc, ap_skip, ap_set, ap_asg, ap_aug, ap_lm, ap_put, ap_oif, ap_ret, ap_drop, ap_raise, ap_gN, ap_gT, ap_gsN, ap_gsC, ap_app, Res.bind_ok, Res.bind_exc, Res.of_some, exOut_ok, exOut_exc, wipeE, Option.bind_some, List.length_cons, List.length_nil, List.getElem?_cons_zero, List.getElem?_cons_succ, List.set_cons_zero, List.set_cons_succ, List.map_cons, List.map_nil, addD, subD, cmpI, negD, modD, ap_lenL, ap_lenT, intD, int1, int2, walkD, if_true, if_false, decide_eq_true_eq, Bool.false_eq_true, reduceIte, Nat.reduceAdd, Nat.reduceSub, List.replicate_succ, List.replicate_zero, List.cons_append, List.nil_append]
      rfl)]
    simp only [ap_var, ap_c, ap_m1, ap_m2, ap_m3, ap_part, ap_nopart, ap_if, ap_isN, ap_notN, ap_list, ap_tup, ap_nil, ap_cons, ap_cb, ap_m1m, ap_chain, ap_isi, ap_mB, ap_asB, ap_and, ap_or, ap_not, ap_yes, ap_call, ap_lc, ap_noX, ap_iseq, ap_iown, ap_seq, th_nx, th_rt, th_exc, ap_skip, ap_set, ap_asg, ap_aug, ap_lm, ap_put, ap_oif, ap_ret, ap_drop, ap_raise, ap_gN, ap_gT, ap_gsN, ap_gsC, ap_app, Res.bind_ok, Res.bind_exc, Res.of_some, exOut_ok, exOut_exc, wipeE, Option.bind_some, List.length_cons, List.length_nil, List.getElem?_cons_zero, List.getElem?_cons_succ, List.set_cons_zero, List.set_cons_succ, List.map_cons, List.map_nil, addD, subD, cmpI, negD, modD, ap_lenL, ap_lenT, intD, int1, int2, walkD, if_true, if_false, decide_eq_true_eq, Bool.false_eq_true, reduceIte, Nat.reduceAdd, Nat.reduceSub, List.replicate_succ, List.replicate_zero, List.cons_append, List.nil_append, habs, List.length_map, sz_ge (show 1 ≤ 16777216 by omega), sz_ge (show ns.length ≤ 16777216 by omega), catD, sz_ge (show ns.length + 1 ≤ 16777216 by omega)]
    simp [as, li]
  -- mixed
  let mx : D → D := fun d => match d with | .int i => .int ((i * 48271 + 11) % 2147483647) | d => d
  let m0 := r0.map fun i => (i * 48271 + 11) % 2147483647
  have hmx : (r0.map PyData.int).map mx = m0.map .int := by simp [mx, m0]
  have hm0 : ∀ v ∈ m0, 0 ≤ v := by
    intro v hv
    obtain ⟨i, _, rfl⟩ := List.mem_map.mp hv
    omega
  have hml : m0.length = r0.length := by simp [m0]
  have cm : ∀ (i j : Int), -18446744073709551616 < j → j < 18446744073709551616 → CMul i j := fun i j h1 h2 => .inr ⟨h1, h2⟩
  have cm' : ∀ (i j : Int), -18446744073709551616 < i → i < 18446744073709551616 → CMul i j := fun i j h1 h2 => .inl ⟨h1, h2⟩
  have k1 : ∀ i, CMul i 48271 := fun i => cm _ _ (by omega) (by omega)
  have k2 : ∀ i, CMul i 16807 := fun i => cm _ _ (by omega) (by omega)
  have k3 : ∀ i, CMul 7919 i := fun i => cm' _ _ (by omega) (by omega)
  have k4 : CPow 10 18 := by unfold CPow; decide
  have k5 : ∀ i, CDiv i 65536 := fun i => by unfold CDiv; omega
  have k6 : ∀ i, CDiv i 5 := fun i => by unfold CDiv; omega
  have k7 : (0 : Int) < 2147483647 := by decide
  have k8 : (0 : Int) < 65536 := by decide
  refine seq_ex (e := [some (li ns), some (.int N), some (li r0), some (li m0), none, none, none, none]) ?_ ?_
  · simp only [ap_var, ap_c, ap_m1, ap_m2, ap_m3, ap_part, ap_nopart, ap_if, ap_isN, ap_notN, ap_list, ap_tup, ap_nil, ap_cons, ap_cb, ap_m1m, ap_chain, ap_isi, ap_mB, ap_asB, ap_and, ap_or, ap_not, ap_yes, ap_call, ap_lc, ap_noX, ap_iseq, ap_iown, ap_seq, th_nx, th_rt, th_exc, ap_skip, ap_set, ap_asg, ap_aug, ap_lm, ap_put, ap_oif, ap_ret, ap_drop, ap_raise, ap_gN, ap_gT, ap_gsN, ap_gsC, ap_app, Res.bind_ok, Res.bind_exc, Res.of_some, exOut_ok, exOut_exc, wipeE, Option.bind_some, List.length_cons, List.length_nil, List.getElem?_cons_zero, List.getElem?_cons_succ, List.set_cons_zero, List.set_cons_succ, List.map_cons, List.map_nil, addD, subD, cmpI, negD, modD, ap_lenL, ap_lenT, intD, int1, int2, walkD, if_true, if_false, decide_eq_true_eq, Bool.false_eq_true, reduceIte, Nat.reduceAdd, Nat.reduceSub, List.replicate_succ, List.replicate_zero, List.cons_append, List.nil_append]
    rw [lc_all mx (by
      intro d hd
      obtain ⟨i, _, rfl⟩ := List.mem_map.mp hd
      simp only [ap_var, ap_c, ap_m1, ap_m2, ap_m3, ap_part, ap_nopart, ap_if, ap_isN, ap_notN, ap_list, ap_tup, ap_nil, ap_cons, ap_cb, ap_m1m, ap_chain, ap_isi, ap_mB, ap_asB, ap_and, ap_or, ap_not, ap_yes, ap_call, ap_lc, ap_noX, ap_iseq, ap_iown, ap_seq, th_nx, th_rt, th_exc, ap_skip, ap_set, ap_asg, ap_aug, ap_lm, ap_put, ap_oif, ap_ret, ap_drop, ap_raise, ap_gN, ap_gT, ap_gsN, ap_gsC, ap_app, Res.bind_ok, Res.bind_exc, Res.of_some, exOut_ok, exOut_exc, wipeE, Option.bind_some, List.length_cons, List.length_nil, List.getElem?_cons_zero, List.getElem?_cons_succ, List.set_cons_zero, List.set_cons_succ, List.map_cons, List.map_nil, addD, subD, cmpI, negD, modD, ap_lenL, ap_lenT, intD, int1, int2, walkD, if_true, if_false, decide_eq_true_eq, Bool.false_eq_true, reduceIte, Nat.reduceAdd, Nat.reduceSub, List.replicate_succ, List.replicate_zero, List.cons_append, List.nil_append, mulG, k1, k7]
      rfl)]
    simp only [ap_var, ap_c, ap_m1, ap_m2, ap_m3, ap_part, ap_nopart, ap_if, ap_isN, ap_notN, ap_list, ap_tup, ap_nil, ap_cons, ap_cb, ap_m1m, ap_chain, ap_isi, ap_mB, ap_asB, ap_and, ap_or, ap_not, ap_yes, ap_call, ap_lc, ap_noX, ap_iseq, ap_iown, ap_seq, th_nx, th_rt, th_exc, ap_skip, ap_set, ap_asg, ap_aug, ap_lm, ap_put, ap_oif, ap_ret, ap_drop, ap_raise, ap_gN, ap_gT, ap_gsN, ap_gsC, ap_app, Res.bind_ok, Res.bind_exc, Res.of_some, exOut_ok, exOut_exc, wipeE, Option.bind_some, List.length_cons, List.length_nil, List.getElem?_cons_zero, List.getElem?_cons_succ, List.set_cons_zero, List.set_cons_succ, List.map_cons, List.map_nil, addD, subD, cmpI, negD, modD, ap_lenL, ap_lenT, intD, int1, int2, walkD, if_true, if_false, decide_eq_true_eq, Bool.false_eq_true, reduceIte, Nat.reduceAdd, Nat.reduceSub, List.replicate_succ, List.replicate_zero, List.cons_append, List.nil_append, hmx, List.length_map, hml, sz_ge (show r0.length ≤ 16777216 by omega)]
  refine seq_ex (e := [some (li ns), some (.int N), some (li r0), some (li m0), some (li []), none, none, none]) ?_ ?_
  · simp only [ap_var, ap_c, ap_m1, ap_m2, ap_m3, ap_part, ap_nopart, ap_if, ap_isN, ap_notN, ap_list, ap_tup, ap_nil, ap_cons, ap_cb, ap_m1m, ap_chain, ap_isi, ap_mB, ap_asB, ap_and, ap_or, ap_not, ap_yes, ap_call, ap_lc, ap_noX, ap_iseq, ap_iown, ap_seq, th_nx, th_rt, th_exc, ap_skip, ap_set, ap_asg, ap_aug, ap_lm, ap_put, ap_oif, ap_ret, ap_drop, ap_raise, ap_gN, ap_gT, ap_gsN, ap_gsC, ap_app, Res.bind_ok, Res.bind_exc, Res.of_some, exOut_ok, exOut_exc, wipeE, Option.bind_some, List.length_cons, List.length_nil, List.getElem?_cons_zero, List.getElem?_cons_succ, List.set_cons_zero, List.set_cons_succ, List.map_cons, List.map_nil, addD, subD, cmpI, negD, modD, ap_lenL, ap_lenT, intD, int1, int2, walkD, if_true, if_false, decide_eq_true_eq, Bool.false_eq_true, reduceIte, Nat.reduceAdd, Nat.reduceSub, List.replicate_succ, List.replicate_zero, List.cons_append, List.nil_append, sz_ge (show 0 ≤ 16777216 by omega)]
    rfl
  refine seq_for (fun n e => ∃ (r mz nu : List Int) (j1 j2 j3 : Option D), e = [some (li ns), some (.int N), some (li r), some (li mz), some (li nu), j1, j2, j3] ∧ r.length = r0.length ∧ mz.length = r0.length ∧ (∀ v ∈ r, 0 ≤ v) ∧ (∀ v ∈ mz, 0 ≤ v) ∧ (∀ v ∈ nu, Ok16 v) ∧ nu.length = n) (rng 0 N) ?_ ⟨r0, m0, [], none, none, none, rfl, rfl, hml, hr0, hm0, (fun _ h => nomatch h), rfl⟩ ?_ ?_
  · refine irange_ok (l := [.int (N : Nat)]) ?_ (range1 (by omega))
    simp only [ap_var, ap_c, ap_m1, ap_m2, ap_m3, ap_part, ap_nopart, ap_if, ap_isN, ap_notN, ap_list, ap_tup, ap_nil, ap_cons, ap_cb, ap_m1m, ap_chain, ap_isi, ap_mB, ap_asB, ap_and, ap_or, ap_not, ap_yes, ap_call, ap_lc, ap_noX, ap_iseq, ap_iown, ap_seq, th_nx, th_rt, th_exc, ap_skip, ap_set, ap_asg, ap_aug, ap_lm, ap_put, ap_oif, ap_ret, ap_drop, ap_raise, ap_gN, ap_gT, ap_gsN, ap_gsC, ap_app, Res.bind_ok, Res.bind_exc, Res.of_some, exOut_ok, exOut_exc, wipeE, Option.bind_some, List.length_cons, List.length_nil, List.getElem?_cons_zero, List.getElem?_cons_succ, List.set_cons_zero, List.set_cons_succ, List.map_cons, List.map_nil, addD, subD, cmpI, negD, modD, ap_lenL, ap_lenT, intD, int1, int2, walkD, if_true, if_false, decide_eq_true_eq, Bool.false_eq_true, reduceIte, Nat.reduceAdd, Nat.reduceSub, List.replicate_succ, List.replicate_zero, List.cons_append, List.nil_append]
  · rintro n d e hd ⟨r, mz, nu, j1, j2, j3, rfl, q1, q2, q3, q4, q5, q6⟩
    rw [rng_get] at hd
    split at hd <;> cases hd
    rename_i hn
    obtain ⟨a, ea, hla⟩ := mod_nat (0 + (n : Int)) hrl
    have ga : r[a]? = some r[a] := List.getElem?_eq_getElem (by omega)
    have gm : mz[a]? = some mz[a] := List.getElem?_eq_getElem (by omega)
    have ra := q3 r[a] (List.getElem_mem (by omega))
    have i1 : ixD (li r) (.int (a : Int)) = some (.int r[a]) := ix_li rfl ga
    have i2 : ixD (li mz) (.int (a : Int)) = some (.int mz[a]) := ix_li rfl gm
    have x1 : ixN r0.length (a : Int) = some a := by simp [ixN, hla]
    have hp : (0 : Int) < (r0.length : Int) := by omega
    by_cases hb : (1000000000000000000 : Int) ≤ r[a]
    · refine ⟨_, [some (li ns), some (.int N), some (li (r.set a (r[a] / 65536))), some (li mz), some (li (nu ++ [r[a] % 65536])), some (.int (0 + (n : Int))), some (.int a), j3], rfl, ?_, r.set a (r[a] / 65536), mz, nu ++ [r[a] % 65536], _, _, _, rfl, by simpa using q1, q2, ?_, q4, ?_, by simp [q6]⟩
      · simp only [ap_var, ap_c, ap_m1, ap_m2, ap_m3, ap_part, ap_nopart, ap_if, ap_isN, ap_notN, ap_list, ap_tup, ap_nil, ap_cons, ap_cb, ap_m1m, ap_chain, ap_isi, ap_mB, ap_asB, ap_and, ap_or, ap_not, ap_yes, ap_call, ap_lc, ap_noX, ap_iseq, ap_iown, ap_seq, th_nx, th_rt, th_exc, ap_skip, ap_set, ap_asg, ap_aug, ap_lm, ap_put, ap_oif, ap_ret, ap_drop, ap_raise, ap_gN, ap_gT, ap_gsN, ap_gsC, ap_app, Res.bind_ok, Res.bind_exc, Res.of_some, exOut_ok, exOut_exc, wipeE, Option.bind_some, List.length_cons, List.length_nil, List.getElem?_cons_zero, List.getElem?_cons_succ, List.set_cons_zero, List.set_cons_succ, List.map_cons, List.map_nil, addD, subD, cmpI, negD, modD, ap_lenL, ap_lenT, intD, int1, int2, walkD, if_true, if_false, decide_eq_true_eq, Bool.false_eq_true, reduceIte, Nat.reduceAdd, Nat.reduceSub, List.replicate_succ, List.replicate_zero, List.cons_append, List.nil_append, List.length_map, q1, hp, ea, i1, powD, k4, show ((10 : Int) ^ (18 : Int).toNat) = 1000000000000000000 by decide, hb, decide_true, k8, fdivD, k5, x1, sz_gt (show nu.length < 16777216 by omega)]
        simp [li]
      · intro v hv
        rcases List.mem_or_eq_of_mem_set hv with h | rfl
        · exact q3 v h
        · omega
      · intro v hv
        rcases List.mem_append.mp hv with h | h
        · exact q5 v h
        · simp at h; subst h; unfold Ok16; omega
    · let w := (mz[a] * 16807 + 12345 + 7919 * (0 + (n : Int))) % 2147483647
      have w0 : 0 ≤ w := Int.emod_nonneg _ (by decide)
      have gw : (mz.set a w)[a]? = some w := by rw [List.getElem?_set_self (by omega)]
      have i3 : ixD (li (mz.set a w)) (.int (a : Int)) = some (.int w) := ix_li rfl gw
      refine ⟨_, [some (li ns), some (.int N), some (li r), some (li (mz.set a w)), some (li (nu ++ [(r[a] + w / 5) % 65536])), some (.int (0 + (n : Int))), some (.int a), j3], rfl, ?_, r, mz.set a w, nu ++ [(r[a] + w / 5) % 65536], _, _, _, rfl, q1, by simpa using q2, q3, ?_, ?_, by simp [q6]⟩
      · have e3 : (List.map PyData.int mz).set a (.int ((mz[a] * 16807 + 12345 + 7919 * (0 + (n : Int))) % 2147483647)) = (mz.set a w).map .int := by simp [w]
        have i3' : ixD (.list ((mz.set a w).map .int)) (.int (a : Int)) = some (.int w) := i3
        simp only [ap_var, ap_c, ap_m1, ap_m2, ap_m3, ap_part, ap_nopart, ap_if, ap_isN, ap_notN, ap_list, ap_tup, ap_nil, ap_cons, ap_cb, ap_m1m, ap_chain, ap_isi, ap_mB, ap_asB, ap_and, ap_or, ap_not, ap_yes, ap_call, ap_lc, ap_noX, ap_iseq, ap_iown, ap_seq, th_nx, th_rt, th_exc, ap_skip, ap_set, ap_asg, ap_aug, ap_lm, ap_put, ap_oif, ap_ret, ap_drop, ap_raise, ap_gN, ap_gT, ap_gsN, ap_gsC, ap_app, Res.bind_ok, Res.bind_exc, Res.of_some, exOut_ok, exOut_exc, wipeE, Option.bind_some, List.length_cons, List.length_nil, List.getElem?_cons_zero, List.getElem?_cons_succ, List.set_cons_zero, List.set_cons_succ, List.map_cons, List.map_nil, addD, subD, cmpI, negD, modD, ap_lenL, ap_lenT, intD, int1, int2, walkD, if_true, if_false, decide_eq_true_eq, Bool.false_eq_true, reduceIte, Nat.reduceAdd, Nat.reduceSub, List.replicate_succ, List.replicate_zero, List.cons_append, List.nil_append, List.length_map, q1, q2, hp, ea, i1, i2, powD, k4, show ((10 : Int) ^ (18 : Int).toNat) = 1000000000000000000 by decide, hb, decide_false, k8, k7, fdivD, k6, x1, mulG, k2, k3, sz_gt (show nu.length < 16777216 by omega), e3, i3']
        simp [li]
      · intro v hv
        rcases List.mem_or_eq_of_mem_set hv with h | rfl
        · exact q4 v h
        · exact w0
      · intro v hv
        rcases List.mem_append.mp hv with h | h
        · exact q5 v h
        · simp at h; subst h; unfold Ok16; omega
  · rintro e ⟨r, mz, nu, j1, j2, j3, rfl, q1, q2, q3, q4, q5, q6⟩
    refine ⟨_, ?_, nu, rfl, by simpa [rng] using q6, q5⟩
    simp only [ap_var, ap_c, ap_m1, ap_m2, ap_m3, ap_part, ap_nopart, ap_if, ap_isN, ap_notN, ap_list, ap_tup, ap_nil, ap_cons, ap_cb, ap_m1m, ap_chain, ap_isi, ap_mB, ap_asB, ap_and, ap_or, ap_not, ap_yes, ap_call, ap_lc, ap_noX, ap_iseq, ap_iown, ap_seq, th_nx, th_rt, th_exc, ap_skip, ap_set, ap_asg, ap_aug, ap_lm, ap_put, ap_oif, ap_ret, ap_drop, ap_raise, ap_gN, ap_gT, ap_gsN, ap_gsC, ap_app, Res.bind_ok, Res.bind_exc, Res.of_some, exOut_ok, exOut_exc, wipeE, Option.bind_some, List.length_cons, List.length_nil, List.getElem?_cons_zero, List.getElem?_cons_succ, List.set_cons_zero, List.set_cons_succ, List.map_cons, List.map_nil, addD, subD, cmpI, negD, modD, ap_lenL, ap_lenT, intD, int1, int2, walkD, if_true, if_false, decide_eq_true_eq, Bool.false_eq_true, reduceIte, Nat.reduceAdd, Nat.reduceSub, List.replicate_succ, List.replicate_zero, List.cons_append, List.nil_append]
end K48

namespace K48
open PySem PySem.Spec L2 DL
/-! ### drawn houses: _law_signs, _law_text, _law_house -/
def SG : List Nat := (List.range 95).map (32 + ·)
theorem s_sg : ((" !\"#$&'()*+,-./0123456789:;<=>?@ABCDEFGHIJKLMNOPQRSTUVWXYZ[\\]^_`abcdefghijklmnopqrstuvwxyz{|}~" : String) : Str) = txS (SG.filter fun c => decide (c ≠ 37)) := by decide +kernel
def Lo (t : List Nat) : Prop := ∀ c ∈ t, c < 128
theorem Lo.take {t : List Nat} (h : Lo t) (n : Nat) : Lo (t.take n) := fun c hc => h c (List.mem_of_mem_take hc)
theorem Lo.drop {t : List Nat} (h : Lo t) (n : Nat) : Lo (t.drop n) := fun c hc => h c (List.mem_of_mem_drop hc)
theorem Lo.app {t u : List Nat} (h : Lo t) (h2 : Lo u) : Lo (t ++ u) := fun c hc => (List.mem_append.mp hc).elim (h c) (h2 c)
theorem Lo.rp {t : List Nat} (h : Lo t) (n : Nat) : Lo (rp t n) := by
  intro c hc
  unfold DL.rp at hc
  obtain ⟨l, hl, hc⟩ := List.mem_flatten.mp hc
  rw [List.eq_of_mem_replicate hl] at hc
  exact h c hc
theorem sg_lo : Lo (SG.filter fun c => decide (c ≠ 37)) := by unfold Lo; decide +kernel
theorem sg_len : (SG.filter fun c => decide (c ≠ 37)).length = 94 := by decide +kernel
theorem signs_ok (at' : Int) : ∃ cs, m__law_signs [.int at', .int 4] = .ok (.str (txS cs)) ∧ 0 < cs.length ∧ cs.length ≤ 8 ∧ Lo cs := by
  obtain ⟨a, ha, ha2⟩ := mod_nat at' (n := 91) (by omega)
  rw [show ((91 : Nat) : Int) = 91 from rfl] at ha
  obtain ⟨S, hS⟩ : ∃ S, S = SG.filter fun c => decide (c ≠ 37) := ⟨_, rfl⟩
  have lo : Lo S := hS ▸ sg_lo
  have ln : S.length = 94 := hS ▸ sg_len
  have hs := s_sg
  rw [← hS] at hs
  refine ⟨(S.drop a).take 4, ?_, by simp; omega, by simp; omega, (lo.drop a).take 4⟩
  refine run_rt ?_
  show o__law_signs [some (.int at'), some (.int 4), none] = _
  unfold o__law_signs
  rw [hs]
  clear hs hS
  have h1 := sl_from (t := S) (a := a) (sz_ge (by omega))
  have h2 := sl_to (t := S.drop a) (a := 4) (sz_ge (by rw [List.length_drop]; omega))
  rw [show ((4 : Nat) : Int) = 4 from rfl] at h2
  have p : (0 : Int) < 95 - 4 := by decide
  have e : (95 : Int) - 4 = 91 := by decide
  refine seq_nx (e := [some (.int at'), some (.int 4), some (.str (txS S))]) ?_ ?_
  · simp only [ap_var, ap_c, ap_m1, ap_m2, ap_m3, ap_part, ap_nopart, ap_if, ap_isN, ap_notN, ap_list, ap_tup, ap_nil, ap_cons, ap_cb, ap_m1m, ap_chain, ap_isi, ap_mB, ap_asB, ap_and, ap_or, ap_not, ap_yes, ap_call, ap_lc, ap_noX, ap_iseq, ap_iown, ap_seq, th_nx, th_rt, th_exc, ap_skip, ap_set, ap_asg, ap_aug, ap_lm, ap_put, ap_oif, ap_ret, ap_drop, ap_raise, ap_gN, ap_gT, ap_gsN, ap_gsC, ap_app, Res.bind_ok, Res.bind_exc, Res.of_some, exOut_ok, exOut_exc, wipeE, Option.bind_some, List.length_cons, List.length_nil, List.getElem?_cons_zero, List.getElem?_cons_succ, List.set_cons_zero, List.set_cons_succ, List.map_cons, List.map_nil, add_ii, sub_ii, cmpI, negD, modD, ap_lenL, ap_lenT, intD, int1, int2, walkD, if_true, if_false, decide_eq_true_eq, Bool.false_eq_true, reduceIte, Nat.reduceAdd, Nat.reduceSub, List.replicate_succ, List.replicate_zero, List.cons_append, List.nil_append]
  have e1 := m2_ok (f := subD) (ma := mC (.int 95)) (mb := mVar 1) (env := [some (.int at'), some (.int 4), some (.str (txS S))]) ap_c (var_ok rfl) (show subD (.int 95) (.int 4) = some (.int 91) from rfl)
  have e2 : (mCB intD (aCons (mVar 0) aNil)) [some (.int at'), some (.int 4), some (.str (txS S))] = .ok (.int at') := by simp only [ap_var, ap_c, ap_m1, ap_m2, ap_m3, ap_part, ap_nopart, ap_if, ap_isN, ap_notN, ap_list, ap_tup, ap_nil, ap_cons, ap_cb, ap_m1m, ap_chain, ap_isi, ap_mB, ap_asB, ap_and, ap_or, ap_not, ap_yes, ap_call, ap_lc, ap_noX, ap_iseq, ap_iown, ap_seq, th_nx, th_rt, th_exc, ap_skip, ap_set, ap_asg, ap_aug, ap_lm, ap_put, ap_oif, ap_ret, ap_drop, ap_raise, ap_gN, ap_gT, ap_gsN, ap_gsC, ap_app, Res.bind_ok, Res.bind_exc, Res.of_some, exOut_ok, exOut_exc, wipeE, Option.bind_some, List.length_cons, List.length_nil, List.getElem?_cons_zero, List.getElem?_cons_succ, List.set_cons_zero, List.set_cons_succ, List.map_cons, List.map_nil, add_ii, sub_ii, cmpI, negD, modD, ap_lenL, ap_lenT, intD, int1, int2, walkD, if_true, if_false, decide_eq_true_eq, Bool.false_eq_true, reduceIte, Nat.reduceAdd, Nat.reduceSub, List.replicate_succ, List.replicate_zero, List.cons_append, List.nil_append]
  have hm : modD (.int at') (.int 91) = some (.int (a : Nat)) := by
    show (if (0 : Int) < 91 then some (PyData.int (at' % 91)) else none) = _
    rw [if_pos (by decide), ha]
  have e3 := m2_ok (f := modD) e2 e1 hm
  have e4 := m3_ok (g := slD) (ma := mVar 2) (var_ok rfl) (part_ok e3) ap_nopart h1
  have e5 := m3_ok (g := slD) e4 ap_nopart (part_ok (m := mVar 1) (var_ok rfl)) h2
  exact ret_ok e5
theorem s_aab : (("aab" : String) : Str) = txS [97, 97, 98] := by decide +kernel
theorem s_xyz : (("xy z" : String) : Str) = txS [120, 121, 32, 122] := by decide +kernel
theorem s_bat : (("ba~!" : String) : Str) = txS [98, 97, 126, 33] := by decide +kernel
theorem s_a_h : (("abcdefgh" : String) : Str) = txS [97, 98, 99, 100, 101, 102, 103, 104] := by decide +kernel
theorem pick8 {cs : List Nat} (h1 : 0 < cs.length) (h2 : cs.length ≤ 8) (h3 : Lo cs) (l : Nat) (hl : l < 8) : ∃ ds, ixD (.list [.str ("ab" : String), .str ("abc" : String), .str ("a" : String), .str ("aab" : String), .str ("xy z" : String), .str ("ba~!" : String), .str ("abcdefgh" : String), .str (txS cs)]) (.int (l : Int)) = some (.str (txS ds)) ∧ 0 < ds.length ∧ ds.length ≤ 8 ∧ Lo ds := by
  rw [s_ab, s_abc, s_a, s_aab, s_xyz, s_bat, s_a_h]
  match l, hl with
  | 0, _ => exact ⟨_, ix_nat (n := 0) rfl, by decide, by decide, by unfold Lo; decide⟩
  | 1, _ => exact ⟨_, ix_nat (n := 1) rfl, by decide, by decide, by unfold Lo; decide⟩
  | 2, _ => exact ⟨_, ix_nat (n := 2) rfl, by decide, by decide, by unfold Lo; decide⟩
  | 3, _ => exact ⟨_, ix_nat (n := 3) rfl, by decide, by decide, by unfold Lo; decide⟩
  | 4, _ => exact ⟨_, ix_nat (n := 4) rfl, by decide, by decide, by unfold Lo; decide⟩
  | 5, _ => exact ⟨_, ix_nat (n := 5) rfl, by decide, by decide, by unfold Lo; decide⟩
  | 6, _ => exact ⟨_, ix_nat (n := 6) rfl, by decide, by decide, by unfold Lo; decide⟩
  | 7, _ => exact ⟨cs, ix_nat (n := 7) rfl, h1, h2, h3⟩
/-- letters joined over a range -/
theorem rjoin {mi : Env' → Res (List D)} {v : Nat} {m : Env' → Res D} {vs : List Nat} {env : Env'} {n : Nat} {cs : List Nat} (hi : mi env = .ok (rng 0 n)) (hz : n ≤ 1000000) (hcs : Lo cs)
    (h : ∀ k : Nat, k < n → ∃ c ∈ cs, m ((wipeE env vs).set v (some (.int (0 + (k : Int))))) = .ok (.str (txS [c]))) : ∃ t, (mM1 isStrD joinD (mC (.str ("" : String))) (aCons (mLc mi (gN v) bYes m vs) aNil)) env = .ok (.str (txS t)) ∧ t.length = n ∧ Lo t ∧ ∀ c ∈ t, c ∈ cs := by
  have h' : ∀ k : Nat, ∃ c, k < n → c ∈ cs ∧ m ((wipeE env vs).set v (some (.int (0 + (k : Int))))) = .ok (.str (txS [c])) := by
    intro k
    by_cases hk : k < n
    · obtain ⟨c, h1, h2⟩ := h k hk
      exact ⟨c, fun _ => ⟨h1, h2⟩⟩
    · exact ⟨0, fun z => absurd z hk⟩
  obtain ⟨f, hf⟩ := Classical.axiomOfChoice h'
  have h1 := lc_rng (lo := 0) (f := fun k : Nat => .str (txS [f k])) hi (by omega) (fun k hk => (hf k hk).2)
  have e : ((List.range n).map fun k : Nat => PyData.str (txS [f k])) = ((List.range n).map f).map fun c => .str (txS [c]) := by rw [List.map_map]; rfl
  rw [e] at h1
  have hin : ∀ c ∈ (List.range n).map f, c ∈ cs := by
    intro c hc
    obtain ⟨k, hk, rfl⟩ := List.mem_map.mp hc
    exact (hf k (List.mem_range.mp hk)).1
  refine ⟨(List.range n).map f, ?_, by simp, fun c hc => hcs c (hin c hc), hin⟩
  have h3 := join_ok (ls := (List.range n).map f) (by simp; omega)
  simp only [ap_m1m, ap_c, ap_cons, ap_nil, Res.bind_ok, h1, isStrD, if_true, h3, Res.of_some]
theorem mul_txG {T : List Nat} {n : Nat} (h : T.length * n ≤ 1000000) (hn : n ≤ 1000000) : mulG (.str (txS T)) (.int (n : Int)) = some (.str (txS (rp T n))) := by
  show (if 0 ≤ (n : Int) ∧ (txS T).length * ((n : Int)).toNat ≤ 1000000 ∧ (n : Int) ≤ 1000000 then some (PyData.str (repS (txS T) ((n : Int)).toNat)) else none) = _
  rw [txS_length, Int.toNat_natCast, if_pos ⟨by omega, by omega, by omega⟩]
  unfold repS
  rw [tx_list]
  rfl
theorem fdiv_ok {a : Int} {n : Nat} (hn : 0 < n ∧ n ≤ 1000000) : fdivD (.int a) (.int (n : Int)) = some (.int (a / (n : Int))) := by
  have : CDiv a (n : Int) := by unfold CDiv; omega
  simp only [fdivD, this, if_true]
theorem mod_ok (a : Int) {n : Nat} (hn : 0 < n) : ∃ k : Nat, k < n ∧ modD (.int a) (.int (n : Int)) = some (.int (k : Nat)) := by
  obtain ⟨k, hk, hk2⟩ := mod_nat a hn
  refine ⟨k, hk2, ?_⟩
  show (if (0 : Int) < (n : Int) then some (PyData.int (a % (n : Int))) else none) = _
  rw [if_pos (by omega), hk]
theorem text_ok {xs : List Int} (hx : 0 < xs.length) {at' : Int} {most : Nat} (hm : most ≤ 100) : ∃ t, m__law_text [li xs, .int at', .int most] = .ok (.str (txS t)) ∧ t.length ≤ most ∧ Lo t := by
  suffices H : ∃ x, o__law_text [some (li xs), some (.int at'), some (.int most), none, none, none, none, none, none] = x ∧ ∃ t, x = .rt (.str (txS t)) ∧ t.length ≤ most ∧ Lo t by
    obtain ⟨x, h0, t, h1, h2⟩ := H
    exact ⟨t, run_rt (h0.trans h1), h2⟩
  have z8 : 8 ≤ sizeLine := sz_ge (by omega)
  obtain ⟨v, _, hv⟩ := drawn_ok (a := at') hx
  refine seq_ex (e := [some (li xs), some (.int at'), some (.int most), some (.int v), none, none, none, none, none]) ?_ ?_
  · simp only [ap_var, ap_c, ap_m1, ap_m2, ap_m3, ap_part, ap_nopart, ap_if, ap_isN, ap_notN, ap_list, ap_tup, ap_nil, ap_cons, ap_cb, ap_m1m, ap_chain, ap_isi, ap_mB, ap_asB, ap_and, ap_or, ap_not, ap_yes, ap_call, ap_lc, ap_noX, ap_iseq, ap_iown, ap_seq, th_nx, th_rt, th_exc, ap_skip, ap_set, ap_asg, ap_aug, ap_lm, ap_put, ap_oif, ap_ret, ap_drop, ap_raise, ap_gN, ap_gT, ap_gsN, ap_gsC, ap_app, Res.bind_ok, Res.bind_exc, Res.of_some, exOut_ok, exOut_exc, wipeE, Option.bind_some, List.length_cons, List.length_nil, List.getElem?_cons_zero, List.getElem?_cons_succ, List.set_cons_zero, List.set_cons_succ, List.map_cons, List.map_nil, add_ii, sub_ii, cmpI, negD, modD, ap_lenL, ap_lenT, intD, int1, int2, walkD, if_true, if_false, decide_eq_true_eq, Bool.false_eq_true, reduceIte, Nat.reduceAdd, Nat.reduceSub, List.replicate_succ, List.replicate_zero, List.cons_append, List.nil_append, hv]
  have d8 := fdiv_ok (a := v) (n := 8) (by omega)
  have d4 := fdiv_ok (a := v) (n := 400) (by omega)
  have d16 := fdiv_ok (a := v) (n := 1600) (by omega)
  rw [show ((8 : Nat) : Int) = 8 from rfl] at d8
  rw [show ((400 : Nat) : Int) = 400 from rfl] at d4
  rw [show ((1600 : Nat) : Int) = 1600 from rfl] at d16
  obtain ⟨cs, hcs, c1, c2, c3⟩ := signs_ok (v / 8)
  obtain ⟨l, hl, hl'⟩ := mod_ok v (n := 8) (by omega)
  rw [show ((8 : Nat) : Int) = 8 from rfl] at hl'
  obtain ⟨ls, hls, l1, l2, l3⟩ := pick8 c1 c2 c3 l hl
  refine seq_ex (e := [some (li xs), some (.int at'), some (.int most), some (.int v), some (.str (txS ls)), none, none, none, none]) ?_ ?_
  · simp only [ap_set, ap_m2, ap_list, ap_cons, ap_nil, ap_c, ap_call, ap_var, ap_cb, intD, Res.bind_ok, Res.of_some, exOut_ok, List.getElem?_cons_zero, List.getElem?_cons_succ, List.set_cons_zero, List.set_cons_succ, List.length_cons, List.length_nil, Nat.reduceAdd, d8, hcs, z8, if_true, hl', hls]
  obtain ⟨sz, hsz, hsz'⟩ := mod_ok (v / 8) (n := most + 1) (by omega)
  rw [show ((most + 1 : Nat) : Int) = (most : Int) + 1 by omega] at hsz'
  refine seq_ex (e := [some (li xs), some (.int at'), some (.int most), some (.int v), some (.str (txS ls)), some (.int sz), none, none, none]) ?_ ?_
  · simp only [ap_set, ap_m2, ap_cons, ap_nil, ap_c, ap_var, ap_cb, intD, add_ii, Res.bind_ok, Res.of_some, exOut_ok, List.getElem?_cons_zero, List.getElem?_cons_succ, List.set_cons_zero, List.set_cons_succ, d8, hsz']
  obtain ⟨wd, hwd, hwd'⟩ := mod_ok (v / 400) (n := 4) (by omega)
  rw [show ((4 : Nat) : Int) = 4 from rfl] at hwd'
  refine seq_ex (e := [some (li xs), some (.int at'), some (.int most), some (.int v), some (.str (txS ls)), some (.int sz), some (.int wd), none, none]) ?_ ?_
  · simp only [ap_set, ap_m2, ap_cons, ap_nil, ap_c, ap_var, ap_cb, intD, Res.bind_ok, Res.of_some, exOut_ok, List.getElem?_cons_zero, List.getElem?_cons_succ, List.set_cons_zero, List.set_cons_succ, d4, hwd']
  have ll := ap_lenS (xs := ls) (sz_ge (by omega))
  have elem : ∀ (j7 : Option D) (k : Nat), ∃ c ∈ ls, (m2 ixD (mVar 4) (m2 modD (mCB intD (aCons (mCall m__law_drawn (aCons (mVar 0) (aCons (m2 addD (m2 addD (mVar 1) (mC (.int 1))) (mVar 8)) aNil))) aNil)) (mCB lenD (aCons (mVar 4) aNil)))) [some (li xs), some (.int at'), some (.int most), some (.int v), some (.str (txS ls)), some (.int sz), some (.int wd), j7, some (.int (0 + (k : Int)))] = .ok (.str (txS [c])) := by
    intro j7 k
    obtain ⟨u, _, hu⟩ := drawn_ok (a := at' + 1 + (0 + (k : Int))) hx
    obtain ⟨i, hi, hi'⟩ := mod_ok u l1
    have hg : ls[i]? = some ls[i] := List.getElem?_eq_getElem hi
    have hix := ix_str (sz_ge (by omega)) hg
    refine ⟨ls[i], List.getElem_mem hi, ?_⟩
    simp only [ap_m2, ap_cons, ap_nil, ap_c, ap_var, ap_cb, ap_call, intD, add_ii, Res.bind_ok, Res.of_some, List.getElem?_cons_zero, List.getElem?_cons_succ, hu, ll, hi', hix]
  by_cases hw : wd = 1
  · obtain ⟨n5, hn5, hn5'⟩ := mod_ok (v / 1600) (n := 5) (by omega)
    rw [show ((5 : Nat) : Int) = 5 from rfl] at hn5'
    have q : eqD (.int (wd : Int)) (.int 1) = some (.bool true) := eqi (decide_eq_true (by omega))
    obtain ⟨U, hU, hU1, hU2, _⟩ := rjoin (mi := iRange (aCons (m2 addD (mC (.int 1)) (m2 modD (mCB intD (aCons (m2 fdivD (mVar 3) (mC (.int 1600))) aNil)) (mC (.int 5)))) aNil)) (v := 8) (vs := [8]) (m := m2 ixD (mVar 4) (m2 modD (mCB intD (aCons (mCall m__law_drawn (aCons (mVar 0) (aCons (m2 addD (m2 addD (mVar 1) (mC (.int 1))) (mVar 8)) aNil))) aNil)) (mCB lenD (aCons (mVar 4) aNil)))) (env := [some (li xs), some (.int at'), some (.int most), some (.int v), some (.str (txS ls)), some (.int sz), some (.int wd), none, none]) (n := 1 + n5) (cs := ls)
      (irange_ok (l := [.int (1 + n5 : Nat)]) (by
        simp only [ap_m2, ap_cons, ap_nil, ap_c, ap_var, ap_cb, intD, add_ii, Res.bind_ok, Res.of_some, List.getElem?_cons_zero, List.getElem?_cons_succ, d16, hn5']
        rw [show ((1 + n5 : Nat) : Int) = 1 + (n5 : Int) by omega]) (range1 (by omega))) (by omega) l3 (fun k _ => elem none k)
    have hmul := mul_txG (T := U) (n := most + 1) (by rw [hU1]; exact Nat.le_trans (Nat.mul_le_mul (show 1 + n5 ≤ 5 by omega) (show most + 1 ≤ 101 by omega)) (by omega)) (by omega)
    rw [show ((most + 1 : Nat) : Int) = (most : Int) + 1 by omega] at hmul
    have hl2 := rp_len U (most + 1)
    have hcut := sl_to (t := rp U (most + 1)) (a := sz) (sz_ge (by rw [hl2, hU1]; exact Nat.le_trans (Nat.mul_le_mul (show most + 1 ≤ 101 by omega) (show 1 + n5 ≤ 5 by omega)) (by omega)))
    refine ⟨.rt (.str (txS ((rp U (most + 1)).take sz))), ?_, _, rfl, by rw [List.length_take]; omega, (hU2.rp _).take _⟩
    rw [ap_seq, ap_oif]
    simp only [ap_mB, ap_asB, ap_m2, ap_var, ap_c, Res.bind_ok, Res.of_some, List.getElem?_cons_zero, List.getElem?_cons_succ, q, exOut_ok, if_true]
    have e1 : oSet 7 _ _ = .nx _ := set_ok hU
    rw [ap_seq, e1, th_nx]
    simp only [ap_ret, ap_m3, ap_m2, ap_part, ap_nopart, ap_var, ap_c, add_ii, Res.bind_ok, Res.of_some, List.getElem?_cons_zero, List.getElem?_cons_succ, List.set_cons_zero, List.set_cons_succ, hmul, hcut, exOut_ok, th_rt]
  · have q : eqD (.int (wd : Int)) (.int 1) = some (.bool false) := eqi (decide_eq_false (by omega))
    obtain ⟨U, hU, hU1, hU2, _⟩ := rjoin (mi := iRange (aCons (mVar 5) aNil)) (v := 8) (vs := [8]) (m := m2 ixD (mVar 4) (m2 modD (mCB intD (aCons (mCall m__law_drawn (aCons (mVar 0) (aCons (m2 addD (m2 addD (mVar 1) (mC (.int 1))) (mVar 8)) aNil))) aNil)) (mCB lenD (aCons (mVar 4) aNil)))) (env := [some (li xs), some (.int at'), some (.int most), some (.int v), some (.str (txS ls)), some (.int sz), some (.int wd), none, none]) (n := sz) (cs := ls)
      (irange_ok (l := [.int sz]) (by simp only [ap_cons, ap_nil, ap_var, Res.bind_ok, List.getElem?_cons_zero, List.getElem?_cons_succ]) (range1 (by omega))) (by omega) l3 (fun k _ => elem none k)
    refine ⟨.rt (.str (txS U)), ?_, _, rfl, by omega, hU2⟩
    refine seq_nx (e := [some (li xs), some (.int at'), some (.int most), some (.int v), some (.str (txS ls)), some (.int sz), some (.int wd), none, none]) ?_ (ret_ok hU)
    simp only [ap_oif, ap_mB, ap_asB, ap_m2, ap_var, ap_c, Res.bind_ok, Res.of_some, List.getElem?_cons_zero, List.getElem?_cons_succ, q, exOut_ok, Bool.false_eq_true, if_false, ap_skip]
end K48

namespace K48
open PySem PySem.Spec L2 DL
abbrev Ho := List (Nat × List Nat)
def enD (p : Nat × List Nat) : D := .tuple [.int p.1, .str (txS p.2)]
abbrev hD (hs : Ho) : D := .list (hs.map enD)
structure HG (T most : Nat) (hs : Ho) : Prop where
  len : hs.length ≤ T
  txt : ∀ p ∈ hs, p.2.length ≤ most ∧ Lo p.2
  asc : hs.Pairwise fun a b => a.1 < b.1
  num : ∀ p ∈ hs, p.1 < 12 * T
theorem house_ok {xs : List Int} (hx : 0 < xs.length) {at' : Int} {T most : Nat} (hT : T ≤ 20) (hm : most ≤ 100) : ∃ hs, m__law_house [li xs, .int at', .int T, .int most] = .ok (hD hs) ∧ HG T most hs := by
  suffices H : ∃ x, o__law_house [some (li xs), some (.int at'), some (.int T), some (.int most), none, none, none, none] = x ∧ ∃ hs, x = .rt (hD hs) ∧ HG T most hs by
    obtain ⟨x, h0, hs, h1, h2⟩ := H
    exact ⟨hs, run_rt (h0.trans h1), h2⟩
  have z0 : 0 ≤ sizeLine := sz_ge (by omega)
  have z2 : 2 ≤ sizeLine := sz_ge (by omega)
  refine seq_ex (e := [some (li xs), some (.int at'), some (.int T), some (.int most), some (hD []), none, none, none]) ?_ ?_
  · simp only [ap_var, ap_c, ap_m1, ap_m2, ap_m3, ap_part, ap_nopart, ap_if, ap_isN, ap_notN, ap_list, ap_tup, ap_nil, ap_cons, ap_cb, ap_m1m, ap_chain, ap_isi, ap_mB, ap_asB, ap_and, ap_or, ap_not, ap_yes, ap_call, ap_lc, ap_noX, ap_iseq, ap_iown, ap_seq, th_nx, th_rt, th_exc, ap_skip, ap_set, ap_asg, ap_aug, ap_lm, ap_put, ap_oif, ap_ret, ap_drop, ap_raise, ap_gN, ap_gT, ap_gsN, ap_gsC, ap_app, Res.bind_ok, Res.bind_exc, Res.of_some, exOut_ok, exOut_exc, wipeE, Option.bind_some, List.length_cons, List.length_nil, List.getElem?_cons_zero, List.getElem?_cons_succ, List.set_cons_zero, List.set_cons_succ, List.map_cons, List.map_nil, add_ii, sub_ii, cmpI, negD, modD, ap_lenL, ap_lenT, intD, int1, int2, walkD, if_true, if_false, decide_eq_true_eq, Bool.false_eq_true, reduceIte, Nat.reduceAdd, Nat.reduceSub, List.replicate_succ, List.replicate_zero, List.cons_append, List.nil_append, z0]
    rfl
  refine seq_ex (e := [some (li xs), some (.int at'), some (.int T), some (.int most), some (hD []), some (.int (-1)), none, none]) ?_ ?_
  · simp only [ap_var, ap_c, ap_m1, ap_m2, ap_m3, ap_part, ap_nopart, ap_if, ap_isN, ap_notN, ap_list, ap_tup, ap_nil, ap_cons, ap_cb, ap_m1m, ap_chain, ap_isi, ap_mB, ap_asB, ap_and, ap_or, ap_not, ap_yes, ap_call, ap_lc, ap_noX, ap_iseq, ap_iown, ap_seq, th_nx, th_rt, th_exc, ap_skip, ap_set, ap_asg, ap_aug, ap_lm, ap_put, ap_oif, ap_ret, ap_drop, ap_raise, ap_gN, ap_gT, ap_gsN, ap_gsC, ap_app, Res.bind_ok, Res.bind_exc, Res.of_some, exOut_ok, exOut_exc, wipeE, Option.bind_some, List.length_cons, List.length_nil, List.getElem?_cons_zero, List.getElem?_cons_succ, List.set_cons_zero, List.set_cons_succ, List.map_cons, List.map_nil, add_ii, sub_ii, cmpI, negD, modD, ap_lenL, ap_lenT, intD, int1, int2, walkD, if_true, if_false, decide_eq_true_eq, Bool.false_eq_true, reduceIte, Nat.reduceAdd, Nat.reduceSub, List.replicate_succ, List.replicate_zero, List.cons_append, List.nil_append]
  obtain ⟨v, _, hv⟩ := drawn_ok (a := at') hx
  obtain ⟨n0, hn0, hn0'⟩ := mod_ok v (n := T + 1) (by omega)
  rw [show ((T + 1 : Nat) : Int) = (T : Int) + 1 by omega] at hn0'
  refine seq_for (fun m e => ∃ (hs : Ho) (nm : Int) (j6 j7 : Option D), e = [some (li xs), some (.int at'), some (.int T), some (.int most), some (hD hs), some (.int nm), j6, j7] ∧ hs.length = m ∧ -1 ≤ nm ∧ nm < 12 * m ∧ (∀ p ∈ hs, (p.1 : Int) ≤ nm) ∧ (∀ p ∈ hs, p.2.length ≤ most ∧ Lo p.2) ∧ hs.Pairwise fun a b => a.1 < b.1) (rng 0 n0) ?_ ⟨[], -1, _, _, rfl, rfl, by omega, by omega, by simp, by simp, .nil⟩ ?_ ?_
  · refine irange_ok (l := [.int n0]) ?_ (range1 (by omega))
    simp only [ap_m2, ap_cons, ap_nil, ap_c, ap_var, ap_cb, ap_call, intD, add_ii, Res.bind_ok, Res.of_some, List.getElem?_cons_zero, List.getElem?_cons_succ, hv, hn0']
  · rintro m d e hd ⟨hs, nm, j6, j7, rfl, q1, q2, q3, q4, q5, q6⟩
    rw [rng_get] at hd
    split at hd <;> cases hd
    rename_i hmn
    rw [Int.zero_add]
    obtain ⟨u, _, hu⟩ := drawn_ok (a := at' + 1 + (m : Int)) hx
    obtain ⟨d12, hd12, hd12'⟩ := mod_ok u (n := 12) (by omega)
    rw [show ((12 : Nat) : Int) = 12 from rfl] at hd12'
    obtain ⟨t, ht, t1, t2⟩ := text_ok hx (at' := at' + 10 + ((43 * m : Nat) : Int)) hm
    have m43 : mulG (.int 43) (.int (m : Int)) = some (.int ((43 * m : Nat) : Int)) := by
      rw [mul_ok (.inl ⟨by decide, by decide⟩)]; congr 2
    obtain ⟨w, _, hw⟩ := drawn_ok (a := at' + 400 + (m : Int)) hx
    obtain ⟨w4, hw4', hw4⟩ := mod_nat w (n := 4) (by omega)
    have p4 : (0 : Int) < 4 := by decide
    rw [show ((4 : Nat) : Int) = 4 from rfl] at hw4'
    obtain ⟨n2, hn2⟩ : ∃ n2 : Nat, nm + 1 + (d12 : Int) = (n2 : Nat) := ⟨(nm + 1 + (d12 : Int)).toNat, by omega⟩
    -- the text at last
    have key : ∃ t' : List Nat, t'.length ≤ most ∧ Lo t' ∧ (oIf (bAnd (mB (m2 gtI (mVar 6) (mC (.int 0)))) (mB (m2 eqD (m2 modD (mCB intD (aCons (mCall m__law_drawn (aCons (mVar 0) (aCons (m2 addD (m2 addD (mVar 1) (mC (.int 400))) (mVar 6)) aNil))) aNil)) (mC (.int 4))) (mC (.int 1))))) (oSet 7 (m3 slD (m2 addD (m2 ixD (m2 ixD (mVar 4) (m2 subD (mVar 6) (mC (.int 1)))) (mC (.int 1))) (mVar 7)) mNoPart (mPart (mVar 3)))) oSkip) [some (li xs), some (.int at'), some (.int T), some (.int most), some (hD hs), some (.int (n2 : Nat)), some (.int (m : Int)), some (.str (txS t))] = .nx [some (li xs), some (.int at'), some (.int T), some (.int most), some (hD hs), some (.int (n2 : Nat)), some (.int (m : Int)), some (.str (txS t'))] := by
      by_cases c : 0 < m ∧ w4 = 1
      · obtain ⟨c1, rfl⟩ := c
        have c1' : (0 : Int) < (m : Int) := by omega
        have q : eqD (.int ((1 : Nat) : Int)) (.int 1) = some (.bool true) := eqi (decide_eq_true rfl)
        obtain ⟨p, hp⟩ : ∃ p, hs[m - 1]? = some p := ⟨_, List.getElem?_eq_getElem (by omega)⟩
        have hp5 := q5 p (List.mem_of_getElem? hp)
        have g1 : ixD (hD hs) (.int ((m : Int) - 1)) = some (enD p) := ix_int (n := m - 1) (by omega) (by rw [List.getElem?_map, hp]; rfl)
        have g2 : ixD (enD p) (.int 1) = some (.str (txS p.2)) := ix_tup (n := 1) rfl
        have g3 : addD (.str (txS p.2)) (.str (txS t)) = some (.str (txS (p.2 ++ t))) := by
          rw [add_str (sz_ge (by rw [txS_length, txS_length]; omega)), txS_append]
        have g4 := sl_to (t := p.2 ++ t) (a := most) (sz_ge (by rw [List.length_append]; omega))
        refine ⟨(p.2 ++ t).take most, by rw [List.length_take]; omega, (hp5.2.app t2).take _, ?_⟩
        simp only [ap_var, ap_c, ap_m1, ap_m2, ap_m3, ap_part, ap_nopart, ap_if, ap_isN, ap_notN, ap_list, ap_tup, ap_nil, ap_cons, ap_cb, ap_m1m, ap_chain, ap_isi, ap_mB, ap_asB, ap_and, ap_or, ap_not, ap_yes, ap_call, ap_lc, ap_noX, ap_iseq, ap_iown, ap_seq, th_nx, th_rt, th_exc, ap_skip, ap_set, ap_asg, ap_aug, ap_lm, ap_put, ap_oif, ap_ret, ap_drop, ap_raise, ap_gN, ap_gT, ap_gsN, ap_gsC, ap_app, Res.bind_ok, Res.bind_exc, Res.of_some, exOut_ok, exOut_exc, wipeE, Option.bind_some, List.length_cons, List.length_nil, List.getElem?_cons_zero, List.getElem?_cons_succ, List.set_cons_zero, List.set_cons_succ, List.map_cons, List.map_nil, add_ii, sub_ii, cmpI, negD, modD, ap_lenL, ap_lenT, intD, int1, int2, walkD, if_true, if_false, decide_eq_true_eq, Bool.false_eq_true, reduceIte, Nat.reduceAdd, Nat.reduceSub, List.replicate_succ, List.replicate_zero, List.cons_append, List.nil_append, c1', decide_true, hw, p4, hw4', q, g1, g2, g3, g4]
      · refine ⟨t, t1, t2, ?_⟩
        by_cases c1 : 0 < m
        · have c1' : (0 : Int) < (m : Int) := by omega
          have q : eqD (.int (w4 : Int)) (.int 1) = some (.bool false) := eqi (decide_eq_false (by omega))
          simp only [ap_var, ap_c, ap_m1, ap_m2, ap_m3, ap_part, ap_nopart, ap_if, ap_isN, ap_notN, ap_list, ap_tup, ap_nil, ap_cons, ap_cb, ap_m1m, ap_chain, ap_isi, ap_mB, ap_asB, ap_and, ap_or, ap_not, ap_yes, ap_call, ap_lc, ap_noX, ap_iseq, ap_iown, ap_seq, th_nx, th_rt, th_exc, ap_skip, ap_set, ap_asg, ap_aug, ap_lm, ap_put, ap_oif, ap_ret, ap_drop, ap_raise, ap_gN, ap_gT, ap_gsN, ap_gsC, ap_app, Res.bind_ok, Res.bind_exc, Res.of_some, exOut_ok, exOut_exc, wipeE, Option.bind_some, List.length_cons, List.length_nil, List.getElem?_cons_zero, List.getElem?_cons_succ, List.set_cons_zero, List.set_cons_succ, List.map_cons, List.map_nil, add_ii, sub_ii, cmpI, negD, modD, ap_lenL, ap_lenT, intD, int1, int2, walkD, if_true, if_false, decide_eq_true_eq, Bool.false_eq_true, reduceIte, Nat.reduceAdd, Nat.reduceSub, List.replicate_succ, List.replicate_zero, List.cons_append, List.nil_append, c1', decide_true, hw, p4, hw4', q]
        · have c1' : ¬ (0 : Int) < (m : Int) := by omega
          simp only [ap_var, ap_c, ap_m1, ap_m2, ap_m3, ap_part, ap_nopart, ap_if, ap_isN, ap_notN, ap_list, ap_tup, ap_nil, ap_cons, ap_cb, ap_m1m, ap_chain, ap_isi, ap_mB, ap_asB, ap_and, ap_or, ap_not, ap_yes, ap_call, ap_lc, ap_noX, ap_iseq, ap_iown, ap_seq, th_nx, th_rt, th_exc, ap_skip, ap_set, ap_asg, ap_aug, ap_lm, ap_put, ap_oif, ap_ret, ap_drop, ap_raise, ap_gN, ap_gT, ap_gsN, ap_gsC, ap_app, Res.bind_ok, Res.bind_exc, Res.of_some, exOut_ok, exOut_exc, wipeE, Option.bind_some, List.length_cons, List.length_nil, List.getElem?_cons_zero, List.getElem?_cons_succ, List.set_cons_zero, List.set_cons_succ, List.map_cons, List.map_nil, add_ii, sub_ii, cmpI, negD, modD, ap_lenL, ap_lenT, intD, int1, int2, walkD, if_true, if_false, decide_eq_true_eq, Bool.false_eq_true, reduceIte, Nat.reduceAdd, Nat.reduceSub, List.replicate_succ, List.replicate_zero, List.cons_append, List.nil_append, c1', decide_false]
    obtain ⟨t', t1', t2', hk⟩ := key
    have hzz : (hs.map enD).length < sizeLine := sz_gt (by simp; omega)
    refine ⟨_, [some (li xs), some (.int at'), some (.int T), some (.int most), some (hD (hs ++ [(n2, t')])), some (.int (n2 : Nat)), some (.int (m : Int)), some (.str (txS t'))], rfl, ?_, _, _, _, _, rfl, by simp [q1], by omega, by omega, ?_, ?_, ?_⟩
    · refine seq_nx (e := [some (li xs), some (.int at'), some (.int T), some (.int most), some (hD hs), some (.int (n2 : Nat)), some (.int (m : Int)), j7]) ?_ ?_
      · simp only [ap_set, ap_m2, ap_cons, ap_nil, ap_c, ap_var, ap_cb, ap_call, intD, add_ii, Res.bind_ok, Res.of_some, exOut_ok, List.getElem?_cons_zero, List.getElem?_cons_succ, List.set_cons_zero, List.set_cons_succ, hu, hd12', hn2]
      refine seq_nx (e := [some (li xs), some (.int at'), some (.int T), some (.int most), some (hD hs), some (.int (n2 : Nat)), some (.int (m : Int)), some (.str (txS t))]) ?_ ?_
      · refine (set_ok (call_ok (l := [li xs, .int (at' + 10 + ((43 * m : Nat) : Int)), .int most]) ?_ ht)).trans rfl
        simp only [ap_m2, ap_cons, ap_nil, ap_c, ap_var, add_ii, Res.bind_ok, Res.of_some, List.getElem?_cons_zero, List.getElem?_cons_succ, List.set_cons_zero, List.set_cons_succ, m43]
      refine seq_nx hk ?_
      simp only [ap_var, ap_c, ap_m1, ap_m2, ap_m3, ap_part, ap_nopart, ap_if, ap_isN, ap_notN, ap_list, ap_tup, ap_nil, ap_cons, ap_cb, ap_m1m, ap_chain, ap_isi, ap_mB, ap_asB, ap_and, ap_or, ap_not, ap_yes, ap_call, ap_lc, ap_noX, ap_iseq, ap_iown, ap_seq, th_nx, th_rt, th_exc, ap_skip, ap_set, ap_asg, ap_aug, ap_lm, ap_put, ap_oif, ap_ret, ap_drop, ap_raise, ap_gN, ap_gT, ap_gsN, ap_gsC, ap_app, Res.bind_ok, Res.bind_exc, Res.of_some, exOut_ok, exOut_exc, wipeE, Option.bind_some, List.length_cons, List.length_nil, List.getElem?_cons_zero, List.getElem?_cons_succ, List.set_cons_zero, List.set_cons_succ, List.map_cons, List.map_nil, add_ii, sub_ii, cmpI, negD, modD, ap_lenL, ap_lenT, intD, int1, int2, walkD, if_true, if_false, decide_eq_true_eq, Bool.false_eq_true, reduceIte, Nat.reduceAdd, Nat.reduceSub, List.replicate_succ, List.replicate_zero, List.cons_append, List.nil_append, z2, hzz]
      rw [hD, List.map_append]
      rfl
    · intro p hp
      rcases List.mem_append.mp hp with hp | hp
      · have := q4 p hp; omega
      · simp at hp; subst hp; exact Int.le_refl _
    · intro p hp
      rcases List.mem_append.mp hp with hp | hp
      · exact q5 p hp
      · simp at hp; subst hp; exact ⟨t1', t2'⟩
    · refine List.pairwise_append.mpr ⟨q6, List.pairwise_singleton _ _, fun a ha b hb => ?_⟩
      simp at hb
      subst hb
      have := q4 a ha
      show a.1 < n2
      omega
  · rintro e ⟨hs, nm, j6, j7, rfl, q1, q2, q3, q4, q5, q6⟩
    rw [rng_len] at q1 q3
    refine ⟨_, ret_ok (var_ok rfl), hs, rfl, by omega, q5, q6, fun p hp => ?_⟩
    have := q4 p hp
    have h1 : (12 * n0 : Int) ≤ 12 * T := by omega
    omega
end K48

namespace DL
open PySem PySem.Spec L2
/-! ### how far two texts agree -/
def lcp : List Nat → List Nat → Nat
  | x :: xs, y :: ys => if x = y then lcp xs ys + 1 else 0
  | _, _ => 0
theorem lcp_step : ∀ (x y : List Nat) (s : Nat), s ≤ lcp x y → (s < lcp x y ↔ ∃ c, x[s]? = some c ∧ y[s]? = some c)
  | [], y, s, h => by
    have h0 : lcp [] y = 0 := rfl
    rw [h0] at h ⊢
    simp
  | x :: xs, [], s, h => by
    have h0 : lcp (x :: xs) [] = 0 := rfl
    rw [h0] at h ⊢
    simp
  | x :: xs, y :: ys, s, h => by
    by_cases e : x = y
    · have h1 : lcp (x :: xs) (y :: ys) = lcp xs ys + 1 := if_pos e
      rw [h1] at h ⊢
      cases s with
      | zero => simp [e]
      | succ s =>
        have ih := lcp_step xs ys s (by omega)
        rw [List.getElem?_cons_succ, List.getElem?_cons_succ, ← ih]
        omega
    · have h1 : lcp (x :: xs) (y :: ys) = 0 := if_neg e
      rw [h1] at h ⊢
      have : s = 0 := by omega
      subst this
      constructor
      · intro z; omega
      · rintro ⟨c, h2, h3⟩
        simp at h2 h3
        exact absurd (h2.trans h3.symm) e
theorem lcp_le : ∀ x y : List Nat, lcp x y ≤ x.length ∧ lcp x y ≤ y.length
  | [], y => ⟨Nat.le_refl _, Nat.zero_le _⟩
  | x :: xs, [] => ⟨Nat.zero_le _, Nat.le_refl _⟩
  | x :: xs, y :: ys => by
    by_cases e : x = y
    · have h1 : lcp (x :: xs) (y :: ys) = lcp xs ys + 1 := if_pos e
      have := lcp_le xs ys
      rw [h1]
      simp
      omega
    · have h1 : lcp (x :: xs) (y :: ys) = 0 := if_neg e
      rw [h1]
      exact ⟨Nat.zero_le _, Nat.zero_le _⟩
theorem lcp_take : ∀ (x y : List Nat) (n : Nat), n ≤ x.length → (n ≤ lcp x y ↔ y.take n = x.take n)
  | _, _, 0, _ => by simp
  | [], _, n + 1, h => by simp at h
  | x :: xs, [], n + 1, _ => by
    have h0 : lcp (x :: xs) [] = 0 := rfl
    rw [h0]
    simp
  | x :: xs, y :: ys, n + 1, h => by
    have ih := lcp_take xs ys n (by simpa using h)
    by_cases e : x = y
    · have h1 : lcp (x :: xs) (y :: ys) = lcp xs ys + 1 := if_pos e
      rw [h1, List.take_succ_cons, List.take_succ_cons]
      subst e
      constructor
      · intro z; rw [ih.mp (by omega)]
      · intro z
        have := ih.mpr (by injection z)
        omega
    · have h1 : lcp (x :: xs) (y :: ys) = 0 := if_neg e
      rw [h1, List.take_succ_cons, List.take_succ_cons]
      constructor
      · intro z; omega
      · intro z; injection z with z1 z2; exact absurd z1.symm e
/-! ### a text in a text -/
def St (u t : List Nat) : Prop := ∃ k, k + u.length ≤ t.length ∧ (t.drop k).take u.length = u
theorem ins_iff (u t : List Nat) : inS (txS u) (txS t) = true ↔ St u t := by
  unfold inS
  rw [PySem.StrLaws.found_iff]
  unfold St
  refine exists_congr fun k => and_congr (by rw [txS_length, txS_length]) ?_
  show ((txS t).cps.extract k (k + (txS u).length) == (txS u).cps) = true ↔ _
  rw [beq_iff_eq, txS_length]
  show t.toArray.extract k (k + u.length) = u.toArray ↔ _
  rw [List.extract_toArray, List.extract_eq_drop_take, Nat.add_sub_cancel_left]
  constructor
  · intro h; injection h
  · intro h; rw [h]
/-! ### cutting by the longest: none has fewer pieces -/
section
variable (nx : Nat → Nat)
def gc : Nat → Nat → Nat → Nat
  | 0, _, _ => 0
  | f + 1, s, i => if s < i then gc f (nx s) i + 1 else 0
variable {nx}
variable (h1 : ∀ s, s < nx s) (h2 : ∀ s t, s ≤ t → nx s ≤ nx t)
include h1
theorem gc_fuel : ∀ (f f' s i : Nat), i ≤ s + f → i ≤ s + f' → gc nx f s i = gc nx f' s i
  | 0, 0, s, i, _, _ => rfl
  | 0, f' + 1, s, i, h, _ => by
    have : ¬ s < i := by omega
    simp [gc, this]
  | f + 1, 0, s, i, _, h => by
    have : ¬ s < i := by omega
    simp [gc, this]
  | f + 1, f' + 1, s, i, ha, hb => by
    have := h1 s
    rw [gc, gc, gc_fuel f f' (nx s) i (by omega) (by omega)]
theorem gc_step {f s i : Nat} (hf : i ≤ s + f) (h : s < i) : gc nx f s i = gc nx f (nx s) i + 1 := by
  have := h1 s
  cases f with
  | zero => omega
  | succ f =>
    rw [gc, if_pos h, gc_fuel h1 f (f + 1) (nx s) i (by omega) (by omega)]
omit h1 in
theorem gc_zero {f s i : Nat} (h : i ≤ s) : gc nx f s i = 0 := by
  cases f with
  | zero => rfl
  | succ f => rw [gc, if_neg (by omega)]
include h2
theorem gc_mono : ∀ (n f s t i : Nat), i ≤ s + n → i ≤ s + f → s ≤ t → gc nx f t i ≤ gc nx f s i
  | 0, f, s, t, i, hn, hf, hst => by rw [gc_zero (by omega)]; exact Nat.zero_le _
  | n + 1, f, s, t, i, hn, hf, hst => by
    have a := h1 s
    have b := h1 t
    by_cases ht : t < i
    · rw [gc_step h1 (by omega) ht, gc_step h1 hf (by omega)]
      have := gc_mono n f (nx s) (nx t) i (by omega) (by omega) (h2 s t hst)
      omega
    · rw [gc_zero (by omega)]; exact Nat.zero_le _
theorem gc_sub : ∀ (n f a s i : Nat), s ≤ a + n → i ≤ a + f → i ≤ s + f → s ≤ i → gc nx f a i ≤ gc nx f a s + gc nx f s i
  | n, f, a, s, i, hn, hf, hf2, hsi => by
    by_cases has : a < s
    · have b := h1 a
      cases n with
      | zero => omega
      | succ n =>
        rw [gc_step h1 hf (by omega), gc_step h1 (i := s) (by omega) has]
        have := gc_sub n f (nx a) s i (by omega) (by omega) hf2 hsi
        omega
    · have := gc_mono h1 h2 (i - s) f s a i (by omega) hf2 (by omega)
      omega
omit h2 in
theorem gc_last : ∀ (n f a i : Nat), i ≤ a + n → i ≤ a + f → a < i → ∃ s, a ≤ s ∧ s < i ∧ i ≤ nx s ∧ gc nx f a s + 1 = gc nx f a i
  | n, f, a, i, hn, hf, hai => by
    have b := h1 a
    by_cases h : i ≤ nx a
    · refine ⟨a, Nat.le_refl _, hai, h, ?_⟩
      rw [gc_zero (Nat.le_refl a), gc_step h1 hf hai, gc_zero h]
    · cases n with
      | zero => omega
      | succ n =>
        obtain ⟨s, q1, q2, q3, q4⟩ := gc_last n f (nx a) i (by omega) (by omega) (by omega)
        refine ⟨s, by omega, q2, q3, ?_⟩
        rw [gc_step h1 (i := s) (by omega) (by omega), gc_step h1 hf hai, q4]
end
end DL

namespace K48
open PySem PySem.Spec L2 DL
/-! ### the longest stretch of a house at a place of a word -/
abbrev Bs := Nat × Nat × Nat
def lc (w : List Nat) (st : Nat) (p : Nat × List Nat) (k : Nat) : Nat := lcp (w.drop st) (p.2.drop k)
def bstep (w : List Nat) (st : Nat) (p : Nat × List Nat) (b : Bs) (k : Nat) : Bs := if b.1 < lc w st p k then (lc w st p k, p.1, k) else b
def bin (w : List Nat) (st : Nat) (p : Nat × List Nat) (b : Bs) (n : Nat) : Bs := (List.range n).foldl (bstep w st p) b
theorem bin_succ (w : List Nat) (st : Nat) (p : Nat × List Nat) (b : Bs) (n : Nat) : bin w st p b (n + 1) = bstep w st p (bin w st p b n) n := by
  unfold bin
  rw [List.range_succ, List.foldl_append]
  rfl
def bfr (w : List Nat) (st : Nat) (b : Bs) (hs : Ho) : Bs := hs.foldl (fun b p => bin w st p b p.2.length) b
def bst (hs : Ho) (w : List Nat) (st : Nat) : Bs := bfr w st (0, 0, 0) hs
theorem bfr_snoc (w : List Nat) (st : Nat) (b : Bs) (hs : Ho) (p : Nat × List Nat) : bfr w st b (hs ++ [p]) = bin w st p (bfr w st b hs) p.2.length := by
  unfold bfr
  rw [List.foldl_append]
  rfl
theorem bstep_ge (w : List Nat) (st : Nat) (p : Nat × List Nat) (b : Bs) (k : Nat) : b.1 ≤ (bstep w st p b k).1 ∧ lc w st p k ≤ (bstep w st p b k).1 := by
  unfold bstep
  split
  · rename_i h; exact ⟨Nat.le_of_lt h, Nat.le_refl _⟩
  · rename_i h; exact ⟨Nat.le_refl _, by omega⟩
theorem bin_ge (w : List Nat) (st : Nat) (p : Nat × List Nat) (b : Bs) : ∀ n, b.1 ≤ (bin w st p b n).1 ∧ ∀ k, k < n → lc w st p k ≤ (bin w st p b n).1
  | 0 => ⟨Nat.le_refl _, fun k h => by omega⟩
  | n + 1 => by
    obtain ⟨h1, h2⟩ := bin_ge w st p b n
    rw [bin_succ]
    have h3 := bstep_ge w st p (bin w st p b n) n
    refine ⟨Nat.le_trans h1 h3.1, fun k hk => ?_⟩
    by_cases e : k = n
    · subst e; exact h3.2
    · exact Nat.le_trans (h2 k (by omega)) h3.1
theorem bfr_ge (w : List Nat) (st : Nat) : ∀ (hs : Ho) (b : Bs), b.1 ≤ (bfr w st b hs).1 ∧ ∀ p ∈ hs, ∀ k, k < p.2.length → lc w st p k ≤ (bfr w st b hs).1
  | [], b => ⟨Nat.le_refl _, by simp⟩
  | q :: hs, b => by
    obtain ⟨h1, h2⟩ := bfr_ge w st hs (bin w st q b q.2.length)
    have h3 := bin_ge w st q b q.2.length
    refine ⟨Nat.le_trans h3.1 h1, fun p hp k hk => ?_⟩
    rcases List.mem_cons.mp hp with rfl | hp
    · exact Nat.le_trans (h3.2 k hk) h1
    · exact h2 p hp k hk
/-- where the best comes from -/
def Fm (hs : Ho) (w : List Nat) (st : Nat) (b : Bs) : Prop := b = (0, 0, 0) ∨ (0 < b.1 ∧ ∃ p ∈ hs, b.2.2 < p.2.length ∧ b.2.1 = p.1 ∧ b.1 = lc w st p b.2.2)
theorem bin_fm {hs : Ho} {w : List Nat} {st : Nat} {p : Nat × List Nat} (hp : p ∈ hs) {b : Bs} (hb : Fm hs w st b) : ∀ n, n ≤ p.2.length → Fm hs w st (bin w st p b n)
  | 0, _ => hb
  | n + 1, h => by
    have ih := bin_fm hp hb n (by omega)
    rw [bin_succ]
    unfold bstep
    split
    · rename_i hlt
      exact .inr ⟨by show 0 < lc w st p n; omega, p, hp, by show n < _; omega, rfl, rfl⟩
    · exact ih
theorem bfr_fm {hs : Ho} {w : List Nat} {st : Nat} : ∀ (l : Ho), (∀ p ∈ l, p ∈ hs) → ∀ b, Fm hs w st b → Fm hs w st (bfr w st b l)
  | [], _, b, hb => hb
  | q :: l, h, b, hb => bfr_fm l (fun p hp => h p (by simp [hp])) _ (bin_fm (h q (by simp)) hb _ (Nat.le_refl _))
theorem bst_fm (hs : Ho) (w : List Nat) (st : Nat) : Fm hs w st (bst hs w st) := bfr_fm hs (fun _ h => h) _ (.inl rfl)
theorem bst_ge {hs : Ho} {w : List Nat} {st : Nat} {p : Nat × List Nat} (hp : p ∈ hs) {k : Nat} (hk : k < p.2.length) : lc w st p k ≤ (bst hs w st).1 := (bfr_ge w st hs (0, 0, 0)).2 p hp k hk
theorem bst_le (hs : Ho) (w : List Nat) (st : Nat) : (bst hs w st).1 ≤ w.length - st := by
  rcases bst_fm hs w st with h | ⟨_, p, _, _, _, h⟩
  · rw [h]; exact Nat.zero_le _
  · rw [h]
    have := (lcp_le (w.drop st) (p.2.drop (bst hs w st).2.2)).1
    rw [List.length_drop] at this
    exact this
def nxt (hs : Ho) (w : List Nat) (st : Nat) : Nat := st + max 1 (bst hs w st).1
theorem nxt_gt (hs : Ho) (w : List Nat) (st : Nat) : st < nxt hs w st := by unfold nxt; omega
theorem lcp_drop : ∀ (x y : List Nat) (d : Nat), d ≤ lcp x y → lcp (x.drop d) (y.drop d) = lcp x y - d
  | _, _, 0, _ => by simp
  | [], y, d + 1, h => by have : lcp [] y = 0 := rfl; omega
  | x :: xs, [], d + 1, h => by have : lcp (x :: xs) [] = 0 := rfl; omega
  | x :: xs, y :: ys, d + 1, h => by
    by_cases e : x = y
    · have h1 : lcp (x :: xs) (y :: ys) = lcp xs ys + 1 := if_pos e
      rw [h1] at h ⊢
      rw [List.drop_succ_cons, List.drop_succ_cons, lcp_drop xs ys d (by omega)]
      omega
    · have h1 : lcp (x :: xs) (y :: ys) = 0 := if_neg e
      omega
theorem nxt_mono (hs : Ho) (w : List Nat) (s t : Nat) (h : s ≤ t) : nxt hs w s ≤ nxt hs w t := by
  have h1 := nxt_gt hs w t
  by_cases hc : nxt hs w s ≤ t + 1
  · omega
  · have hB : nxt hs w s = s + (bst hs w s).1 := by unfold nxt at hc ⊢; omega
    rcases bst_fm hs w s with z | ⟨z1, p, hp, z2, z3, z4⟩
    · rw [z] at hB; simp only at hB; omega
    · have hl : t - s ≤ lc w s p (bst hs w s).2.2 := by omega
      have e := lcp_drop (w.drop s) (p.2.drop (bst hs w s).2.2) (t - s) hl
      rw [List.drop_drop, List.drop_drop, show s + (t - s) = t by omega] at e
      have hk := (lcp_le (w.drop s) (p.2.drop (bst hs w s).2.2)).2
      rw [List.length_drop] at hk
      have hk2 : lc w s p (bst hs w s).2.2 = lcp (w.drop s) (p.2.drop (bst hs w s).2.2) := rfl
      have g := bst_ge (w := w) (st := t) hp (k := (bst hs w s).2.2 + (t - s)) (by omega)
      unfold lc at g
      rw [e] at g
      unfold nxt at hB ⊢
      omega
/-- the word stands in the house -/
def InH (hs : Ho) (u : List Nat) : Prop := ∃ p ∈ hs, St u p.2
theorem inh_iff {hs : Ho} {w : List Nat} {s i : Nat} (h1 : s < i) (h2 : i ≤ w.length) : InH hs ((w.drop s).take (i - s)) ↔ i - s ≤ (bst hs w s).1 := by
  have hl : ((w.drop s).take (i - s)).length = i - s := by rw [List.length_take, List.length_drop]; omega
  constructor
  · rintro ⟨p, hp, k, k1, k2⟩
    rw [hl] at k1 k2
    have := (lcp_take (w.drop s) (p.2.drop k) (i - s) (by rw [List.length_drop]; omega)).mpr k2
    exact Nat.le_trans this (bst_ge hp (by omega))
  · intro h
    rcases bst_fm hs w s with z | ⟨z1, p, hp, z2, z3, z4⟩
    · rw [z] at h; simp only at h; omega
    · refine ⟨p, hp, (bst hs w s).2.2, ?_, ?_⟩
      · rw [hl]
        have := (lcp_le (w.drop s) (p.2.drop (bst hs w s).2.2)).2
        rw [List.length_drop] at this
        have e : (bst hs w s).1 = lcp (w.drop s) (p.2.drop (bst hs w s).2.2) := z4
        omega
      · rw [hl]
        exact (lcp_take (w.drop s) (p.2.drop (bst hs w s).2.2) (i - s) (by rw [List.length_drop]; omega)).mp (by have e : (bst hs w s).1 = lcp (w.drop s) (p.2.drop (bst hs w s).2.2) := z4; omega)
/-! ### the mirrors -/
theorem alike_key {o : Env' → Out} {a b : List Nat} {i j : Nat} (ha : a.length ≤ 1000) (hb : b.length ≤ 1000)
    (ho : ∀ s : Nat, o [some (.str (txS a)), some (.int i), some (.str (txS b)), some (.int j), some (.int (s : Nat))] = .nx [some (.str (txS a)), some (.int i), some (.str (txS b)), some (.int j), some (.int ((s + 1 : Nat) : Int))]) :
    ∃ x, (oSeq (oSet 4 (mC (.int 0))) (oSeq (wloop (bAnd (mB (m2 ltI (m2 addD (mVar 1) (mVar 4)) (mCB lenD (aCons (mVar 0) aNil)))) (bAnd (mB (m2 ltI (m2 addD (mVar 3) (mVar 4)) (mCB lenD (aCons (mVar 2) aNil)))) (mB (m2 eqD (m2 ixD (mVar 0) (m2 addD (mVar 1) (mVar 4))) (m2 ixD (mVar 2) (m2 addD (mVar 3) (mVar 4))))))) o wfuel) (oRet (mVar 4)))) [some (.str (txS a)), some (.int i), some (.str (txS b)), some (.int j), none] = x ∧ x = .rt (.int (lcp (a.drop i) (b.drop j) : Nat)) := by
  have za : a.length ≤ sizeLine := sz_ge (by omega)
  have zb : b.length ≤ sizeLine := sz_ge (by omega)
  have la := ap_lenS za
  have lb := ap_lenS zb
  have hle := lcp_le (a.drop i) (b.drop j)
  rw [List.length_drop, List.length_drop] at hle
  refine seq_ex (e := [some (.str (txS a)), some (.int i), some (.str (txS b)), some (.int j), some (.int ((0 : Nat) : Int))]) ?_ ?_
  · simp only [ap_var, ap_c, ap_m1, ap_m2, ap_m3, ap_part, ap_nopart, ap_if, ap_isN, ap_notN, ap_list, ap_tup, ap_nil, ap_cons, ap_cb, ap_m1m, ap_chain, ap_isi, ap_mB, ap_asB, ap_and, ap_or, ap_not, ap_yes, ap_call, ap_lc, ap_noX, ap_iseq, ap_iown, ap_seq, th_nx, th_rt, th_exc, ap_skip, ap_set, ap_asg, ap_aug, ap_lm, ap_put, ap_oif, ap_ret, ap_drop, ap_raise, ap_gN, ap_gT, ap_gsN, ap_gsC, ap_app, Res.bind_ok, Res.bind_exc, Res.of_some, exOut_ok, exOut_exc, wipeE, Option.bind_some, List.length_cons, List.length_nil, List.getElem?_cons_zero, List.getElem?_cons_succ, List.set_cons_zero, List.set_cons_succ, List.map_cons, List.map_nil, add_ii, sub_ii, cmpI, negD, modD, ap_lenL, ap_lenT, intD, int1, int2, walkD, if_true, if_false, decide_eq_true_eq, Bool.false_eq_true, reduceIte, Nat.reduceAdd, Nat.reduceSub, List.replicate_succ, List.replicate_zero, List.cons_append, List.nil_append]
    rfl
  have hcond : ∀ s : Nat, s ≤ lcp (a.drop i) (b.drop j) → (bAnd (mB (m2 ltI (m2 addD (mVar 1) (mVar 4)) (mCB lenD (aCons (mVar 0) aNil)))) (bAnd (mB (m2 ltI (m2 addD (mVar 3) (mVar 4)) (mCB lenD (aCons (mVar 2) aNil)))) (mB (m2 eqD (m2 ixD (mVar 0) (m2 addD (mVar 1) (mVar 4))) (m2 ixD (mVar 2) (m2 addD (mVar 3) (mVar 4))))))) [some (.str (txS a)), some (.int i), some (.str (txS b)), some (.int j), some (.int (s : Nat))] = .ok (decide (s < lcp (a.drop i) (b.drop j))) := by
    intro s hs
    have st := lcp_step (a.drop i) (b.drop j) s hs
    rw [List.getElem?_drop, List.getElem?_drop] at st
    by_cases h1 : i + s < a.length
    · have h1' : (i : Int) + (s : Int) < (a.length : Int) := by omega
      by_cases h2 : j + s < b.length
      · have h2' : (j : Int) + (s : Int) < (b.length : Int) := by omega
        have x1 : ixD (.str (txS a)) (.int ((i : Int) + (s : Int))) = some (.str (txS [a[i + s]])) := by
          rw [show (i : Int) + (s : Int) = ((i + s : Nat) : Int) by omega]
          exact ix_str za (List.getElem?_eq_getElem h1)
        have x2 : ixD (.str (txS b)) (.int ((j : Int) + (s : Int))) = some (.str (txS [b[j + s]])) := by
          rw [show (j : Int) + (s : Int) = ((j + s : Nat) : Int) by omega]
          exact ix_str zb (List.getElem?_eq_getElem h2)
        have e : decide ([a[i + s]] = [b[j + s]]) = decide (s < lcp (a.drop i) (b.drop j)) := by
          rw [List.getElem?_eq_getElem h1, List.getElem?_eq_getElem h2] at st
          by_cases c : a[i + s] = b[j + s]
          · rw [decide_eq_true (by rw [c]), decide_eq_true (st.mpr ⟨_, rfl, by rw [c]⟩)]
          · rw [decide_eq_false (fun z => c (by simpa using z)), decide_eq_false (fun z => by
              obtain ⟨c', z1, z2⟩ := st.mp z
              injection z1 with z1
              injection z2 with z2
              exact c (z1.trans z2.symm))]
        simp only [ap_var, ap_c, ap_m1, ap_m2, ap_m3, ap_part, ap_nopart, ap_if, ap_isN, ap_notN, ap_list, ap_tup, ap_nil, ap_cons, ap_cb, ap_m1m, ap_chain, ap_isi, ap_mB, ap_asB, ap_and, ap_or, ap_not, ap_yes, ap_call, ap_lc, ap_noX, ap_iseq, ap_iown, ap_seq, th_nx, th_rt, th_exc, ap_skip, ap_set, ap_asg, ap_aug, ap_lm, ap_put, ap_oif, ap_ret, ap_drop, ap_raise, ap_gN, ap_gT, ap_gsN, ap_gsC, ap_app, Res.bind_ok, Res.bind_exc, Res.of_some, exOut_ok, exOut_exc, wipeE, Option.bind_some, List.length_cons, List.length_nil, List.getElem?_cons_zero, List.getElem?_cons_succ, List.set_cons_zero, List.set_cons_succ, List.map_cons, List.map_nil, add_ii, sub_ii, cmpI, negD, modD, ap_lenL, ap_lenT, intD, int1, int2, walkD, if_true, if_false, decide_eq_true_eq, Bool.false_eq_true, reduceIte, Nat.reduceAdd, Nat.reduceSub, List.replicate_succ, List.replicate_zero, List.cons_append, List.nil_append, la, lb, h1', h2', decide_true, x1, x2, eq_txt, e]
      · have h2' : ¬ (j : Int) + (s : Int) < (b.length : Int) := by omega
        have e : decide (s < lcp (a.drop i) (b.drop j)) = false := decide_eq_false (by omega)
        simp only [ap_var, ap_c, ap_m1, ap_m2, ap_m3, ap_part, ap_nopart, ap_if, ap_isN, ap_notN, ap_list, ap_tup, ap_nil, ap_cons, ap_cb, ap_m1m, ap_chain, ap_isi, ap_mB, ap_asB, ap_and, ap_or, ap_not, ap_yes, ap_call, ap_lc, ap_noX, ap_iseq, ap_iown, ap_seq, th_nx, th_rt, th_exc, ap_skip, ap_set, ap_asg, ap_aug, ap_lm, ap_put, ap_oif, ap_ret, ap_drop, ap_raise, ap_gN, ap_gT, ap_gsN, ap_gsC, ap_app, Res.bind_ok, Res.bind_exc, Res.of_some, exOut_ok, exOut_exc, wipeE, Option.bind_some, List.length_cons, List.length_nil, List.getElem?_cons_zero, List.getElem?_cons_succ, List.set_cons_zero, List.set_cons_succ, List.map_cons, List.map_nil, add_ii, sub_ii, cmpI, negD, modD, ap_lenL, ap_lenT, intD, int1, int2, walkD, if_true, if_false, decide_eq_true_eq, Bool.false_eq_true, reduceIte, Nat.reduceAdd, Nat.reduceSub, List.replicate_succ, List.replicate_zero, List.cons_append, List.nil_append, la, lb, h1', h2', decide_true, decide_false, e]
    · have h1' : ¬ (i : Int) + (s : Int) < (a.length : Int) := by omega
      have e : decide (s < lcp (a.drop i) (b.drop j)) = false := decide_eq_false (by omega)
      simp only [ap_var, ap_c, ap_m1, ap_m2, ap_m3, ap_part, ap_nopart, ap_if, ap_isN, ap_notN, ap_list, ap_tup, ap_nil, ap_cons, ap_cb, ap_m1m, ap_chain, ap_isi, ap_mB, ap_asB, ap_and, ap_or, ap_not, ap_yes, ap_call, ap_lc, ap_noX, ap_iseq, ap_iown, ap_seq, th_nx, th_rt, th_exc, ap_skip, ap_set, ap_asg, ap_aug, ap_lm, ap_put, ap_oif, ap_ret, ap_drop, ap_raise, ap_gN, ap_gT, ap_gsN, ap_gsC, ap_app, Res.bind_ok, Res.bind_exc, Res.of_some, exOut_ok, exOut_exc, wipeE, Option.bind_some, List.length_cons, List.length_nil, List.getElem?_cons_zero, List.getElem?_cons_succ, List.set_cons_zero, List.set_cons_succ, List.map_cons, List.map_nil, add_ii, sub_ii, cmpI, negD, modD, ap_lenL, ap_lenT, intD, int1, int2, walkD, if_true, if_false, decide_eq_true_eq, Bool.false_eq_true, reduceIte, Nat.reduceAdd, Nat.reduceSub, List.replicate_succ, List.replicate_zero, List.cons_append, List.nil_append, la, h1', decide_false, e]
  refine seq_while (fun n e => ∃ s : Nat, e = [some (.str (txS a)), some (.int i), some (.str (txS b)), some (.int j), some (.int (s : Nat))] ∧ s + n = lcp (a.drop i) (b.drop j)) (lcp (a.drop i) (b.drop j)) ?_ ⟨0, rfl, by omega⟩ ?_ ?_
  · show _ < 1000000000
    omega
  · rintro n e ⟨s, rfl, q⟩
    rw [hcond s (by omega)]
    by_cases h : s < lcp (a.drop i) (b.drop j)
    · rw [decide_eq_true h]
      exact .inr ⟨rfl, _, n - 1, ho s, by omega, s + 1, rfl, by omega⟩
    · rw [decide_eq_false h]
      exact .inl rfl
  · rintro n e ⟨s, rfl, q⟩ hf
    rw [hcond s (by omega)] at hf
    have : ¬ s < lcp (a.drop i) (b.drop j) := fun z => by rw [decide_eq_true z] at hf; cases hf
    refine ⟨_, ret_ok (var_ok rfl), ?_⟩
    rw [show s = lcp (a.drop i) (b.drop j) by omega]
theorem alike_ok {a b : List Nat} {i j : Nat} (ha : a.length ≤ 1000) (hb : b.length ≤ 1000) : m_alike [.str (txS a), .int i, .str (txS b), .int j] = .ok (.int (lcp (a.drop i) (b.drop j) : Nat)) := by
  obtain ⟨x, h1, rfl⟩ := alike_key (o := oAug 4 augAdd (mC (.int 1))) (i := i) (j := j) ha hb (fun s => by
    simp only [ap_var, ap_c, ap_m1, ap_m2, ap_m3, ap_part, ap_nopart, ap_if, ap_isN, ap_notN, ap_list, ap_tup, ap_nil, ap_cons, ap_cb, ap_m1m, ap_chain, ap_isi, ap_mB, ap_asB, ap_and, ap_or, ap_not, ap_yes, ap_call, ap_lc, ap_noX, ap_iseq, ap_iown, ap_seq, th_nx, th_rt, th_exc, ap_skip, ap_set, ap_asg, ap_aug, ap_lm, ap_put, ap_oif, ap_ret, ap_drop, ap_raise, ap_gN, ap_gT, ap_gsN, ap_gsC, ap_app, Res.bind_ok, Res.bind_exc, Res.of_some, exOut_ok, exOut_exc, wipeE, Option.bind_some, List.length_cons, List.length_nil, List.getElem?_cons_zero, List.getElem?_cons_succ, List.set_cons_zero, List.set_cons_succ, List.map_cons, List.map_nil, add_ii, sub_ii, cmpI, negD, modD, ap_lenL, ap_lenT, intD, int1, int2, walkD, if_true, if_false, decide_eq_true_eq, Bool.false_eq_true, reduceIte, Nat.reduceAdd, Nat.reduceSub, List.replicate_succ, List.replicate_zero, List.cons_append, List.nil_append, augAdd]
    rw [show ((s + 1 : Nat) : Int) = (s : Int) + 1 by omega])
  exact run_rt h1
theorem lalike_ok {a b : List Nat} {i j : Nat} (ha : a.length ≤ 1000) (hb : b.length ≤ 1000) : m__law_alike [.str (txS a), .int i, .str (txS b), .int j] = .ok (.int (lcp (a.drop i) (b.drop j) : Nat)) := by
  obtain ⟨x, h1, rfl⟩ := alike_key (o := oSet 4 (m2 addD (mVar 4) (mC (.int 1)))) (i := i) (j := j) ha hb (fun s => by
    simp only [ap_var, ap_c, ap_m1, ap_m2, ap_m3, ap_part, ap_nopart, ap_if, ap_isN, ap_notN, ap_list, ap_tup, ap_nil, ap_cons, ap_cb, ap_m1m, ap_chain, ap_isi, ap_mB, ap_asB, ap_and, ap_or, ap_not, ap_yes, ap_call, ap_lc, ap_noX, ap_iseq, ap_iown, ap_seq, th_nx, th_rt, th_exc, ap_skip, ap_set, ap_asg, ap_aug, ap_lm, ap_put, ap_oif, ap_ret, ap_drop, ap_raise, ap_gN, ap_gT, ap_gsN, ap_gsC, ap_app, Res.bind_ok, Res.bind_exc, Res.of_some, exOut_ok, exOut_exc, wipeE, Option.bind_some, List.length_cons, List.length_nil, List.getElem?_cons_zero, List.getElem?_cons_succ, List.set_cons_zero, List.set_cons_succ, List.map_cons, List.map_nil, add_ii, sub_ii, cmpI, negD, modD, ap_lenL, ap_lenT, intD, int1, int2, walkD, if_true, if_false, decide_eq_true_eq, Bool.false_eq_true, reduceIte, Nat.reduceAdd, Nat.reduceSub, List.replicate_succ, List.replicate_zero, List.cons_append, List.nil_append]
    rw [show ((s + 1 : Nat) : Int) = (s : Int) + 1 by omega])
  exact run_rt h1
end K48

namespace K48
open PySem PySem.Spec L2 DL
def HB (hs : Ho) : Prop := hs.length ≤ 100 ∧ (∀ p ∈ hs, p.2.length ≤ 100) ∧ ∀ p ∈ hs, p.1 < 10000
def lD (b : Bs) : D := if b.1 = 0 then .tuple [.int 0, .none] else .tuple [.int b.1, .tuple [.int b.2.1, .int b.2.2]]
theorem lD0 (b : Bs) : ixD (lD b) (.int 0) = some (.int b.1) := by
  unfold lD
  split
  · rename_i h; rw [h]; exact ix_tup (n := 0) rfl
  · exact ix_tup (n := 0) rfl
def bD (b : Bs) : D := .tuple [.int b.1, .int b.2.1, .int b.2.2]
theorem bD0 (b : Bs) : ixD (bD b) (.int 0) = some (.int b.1) := ix_tup (n := 0) rfl
theorem bD1 (b : Bs) : ixD (bD b) (.int 1) = some (.int b.2.1) := ix_tup (n := 1) rfl
theorem bD2 (b : Bs) : ixD (bD b) (.int 2) = some (.int b.2.2) := ix_tup (n := 2) rfl
theorem take_ho {hs : Ho} {i : Nat} {p : Nat × List Nat} (h : hs[i]? = some p) (w : List Nat) (st : Nat) (b : Bs) : bfr w st b (hs.take (i + 1)) = bin w st p (bfr w st b (hs.take i)) p.2.length := by
  rw [take_snoc h, bfr_snoc]
theorem longest_ok {hs : Ho} (hb : HB hs) {w : List Nat} (hw : w.length ≤ 1000) (st : Nat) : m_longest_stretch [hD hs, .str (txS w), .int st] = .ok (lD (bst hs w st)) := by
  suffices H : ∃ x, o_longest_stretch [some (hD hs), some (.str (txS w)), some (.int st), none, none, none, none, none] = x ∧ x = .rt (lD (bst hs w st)) by
    obtain ⟨x, h1, rfl⟩ := H
    exact run_rt h1
  have z2 : 2 ≤ sizeLine := sz_ge (by omega)
  refine seq_ex (e := [some (hD hs), some (.str (txS w)), some (.int st), some (lD (bfr w st (0, 0, 0) (hs.take 0))), none, none, none, none]) ?_ ?_
  · simp only [ap_var, ap_c, ap_m1, ap_m2, ap_m3, ap_part, ap_nopart, ap_if, ap_isN, ap_notN, ap_list, ap_tup, ap_nil, ap_cons, ap_cb, ap_m1m, ap_chain, ap_isi, ap_mB, ap_asB, ap_and, ap_or, ap_not, ap_yes, ap_call, ap_lc, ap_noX, ap_iseq, ap_iown, ap_seq, th_nx, th_rt, th_exc, ap_skip, ap_set, ap_asg, ap_aug, ap_lm, ap_put, ap_oif, ap_ret, ap_drop, ap_raise, ap_gN, ap_gT, ap_gsN, ap_gsC, ap_app, Res.bind_ok, Res.bind_exc, Res.of_some, exOut_ok, exOut_exc, wipeE, Option.bind_some, List.length_cons, List.length_nil, List.getElem?_cons_zero, List.getElem?_cons_succ, List.set_cons_zero, List.set_cons_succ, List.map_cons, List.map_nil, add_ii, sub_ii, cmpI, negD, modD, ap_lenL, ap_lenT, intD, int1, int2, walkD, if_true, if_false, decide_eq_true_eq, Bool.false_eq_true, reduceIte, Nat.reduceAdd, Nat.reduceSub, List.replicate_succ, List.replicate_zero, List.cons_append, List.nil_append, z2]
    rfl
  refine seq_for (fun i e => ∃ j4 j5 j6 j7, e = [some (hD hs), some (.str (txS w)), some (.int st), some (lD (bfr w st (0, 0, 0) (hs.take i))), j4, j5, j6, j7]) (hs.map enD) rfl ⟨_, _, _, _, rfl⟩ ?_ ?_
  · rintro i d e hd ⟨j4, j5, j6, j7, rfl⟩
    obtain ⟨p, hp, rfl⟩ := map_get hd
    have hp2 := hb.2.1 p (List.mem_of_getElem? hp)
    have lp := ap_lenS (xs := p.2) (sz_ge (by omega))
    rw [take_ho hp]
    generalize bfr w st (0, 0, 0) (hs.take i) = B
    suffices HH : ∃ o, (oSeq (oFor (iRange (aCons (mCB lenD (aCons (mVar 5) aNil)) aNil)) (gN 6) (oSeq (oSet 7 (mCall m_alike (aCons (mVar 1) (aCons (mVar 2) (aCons (mVar 5) (aCons (mVar 6) aNil)))))) (oSeq (oIf (mB (m2 gtI (mVar 7) (m2 ixD (mVar 3) (mC (.int 0))))) (oSet 3 (mTup (aCons (mVar 7) (aCons (mTup (aCons (mVar 4) (aCons (mVar 6) aNil))) aNil)))) oSkip) oSkip))) oSkip) [some (hD hs), some (.str (txS w)), some (.int st), some (lD B), some (.int p.1), some (.str (txS p.2)), j6, j7] = o ∧ ∃ j6 j7, o = .nx [some (hD hs), some (.str (txS w)), some (.int st), some (lD (bin w st p B p.2.length)), some (.int p.1), some (.str (txS p.2)), j6, j7] by
      obtain ⟨o, q1, j6', j7', rfl⟩ := HH
      exact ⟨_, _, rfl, q1, _, _, _, _, rfl⟩
    refine seq_for (fun k e => ∃ j6 j7, e = [some (hD hs), some (.str (txS w)), some (.int st), some (lD (bin w st p B k)), some (.int p.1), some (.str (txS p.2)), j6, j7]) (rng 0 p.2.length) ?_ ⟨_, _, rfl⟩ ?_ ?_
    · refine irange_ok (l := [.int p.2.length]) ?_ (range1 (by omega))
      simp only [ap_var, ap_c, ap_m1, ap_m2, ap_m3, ap_part, ap_nopart, ap_if, ap_isN, ap_notN, ap_list, ap_tup, ap_nil, ap_cons, ap_cb, ap_m1m, ap_chain, ap_isi, ap_mB, ap_asB, ap_and, ap_or, ap_not, ap_yes, ap_call, ap_lc, ap_noX, ap_iseq, ap_iown, ap_seq, th_nx, th_rt, th_exc, ap_skip, ap_set, ap_asg, ap_aug, ap_lm, ap_put, ap_oif, ap_ret, ap_drop, ap_raise, ap_gN, ap_gT, ap_gsN, ap_gsC, ap_app, Res.bind_ok, Res.bind_exc, Res.of_some, exOut_ok, exOut_exc, wipeE, Option.bind_some, List.length_cons, List.length_nil, List.getElem?_cons_zero, List.getElem?_cons_succ, List.set_cons_zero, List.set_cons_succ, List.map_cons, List.map_nil, add_ii, sub_ii, cmpI, negD, modD, ap_lenL, ap_lenT, intD, int1, int2, walkD, if_true, if_false, decide_eq_true_eq, Bool.false_eq_true, reduceIte, Nat.reduceAdd, Nat.reduceSub, List.replicate_succ, List.replicate_zero, List.cons_append, List.nil_append, lp]
    · rintro k d e hd ⟨j6, j7, rfl⟩
      rw [rng_get] at hd
      split at hd <;> cases hd
      rw [Int.zero_add]
      have ha := alike_ok (i := st) (j := k) hw (show p.2.length ≤ 1000 by omega)
      have hl := lD0 (bin w st p B k)
      refine ⟨_, [some (hD hs), some (.str (txS w)), some (.int st), some (lD (bin w st p B (k + 1))), some (.int p.1), some (.str (txS p.2)), some (.int (k : Int)), some (.int (lcp (w.drop st) (p.2.drop k) : Nat))], rfl, ?_, _, _, rfl⟩
      rw [bin_succ]
      generalize bin w st p B k = C at hl
      refine seq_nx (e := [some (hD hs), some (.str (txS w)), some (.int st), some (lD C), some (.int p.1), some (.str (txS p.2)), some (.int (k : Int)), some (.int (lcp (w.drop st) (p.2.drop k) : Nat))]) ?_ ?_
      · refine (set_ok (call_ok (l := [.str (txS w), .int st, .str (txS p.2), .int k]) ?_ ha)).trans rfl
        simp only [ap_var, ap_c, ap_m1, ap_m2, ap_m3, ap_part, ap_nopart, ap_if, ap_isN, ap_notN, ap_list, ap_tup, ap_nil, ap_cons, ap_cb, ap_m1m, ap_chain, ap_isi, ap_mB, ap_asB, ap_and, ap_or, ap_not, ap_yes, ap_call, ap_lc, ap_noX, ap_iseq, ap_iown, ap_seq, th_nx, th_rt, th_exc, ap_skip, ap_set, ap_asg, ap_aug, ap_lm, ap_put, ap_oif, ap_ret, ap_drop, ap_raise, ap_gN, ap_gT, ap_gsN, ap_gsC, ap_app, Res.bind_ok, Res.bind_exc, Res.of_some, exOut_ok, exOut_exc, wipeE, Option.bind_some, List.length_cons, List.length_nil, List.getElem?_cons_zero, List.getElem?_cons_succ, List.set_cons_zero, List.set_cons_succ, List.map_cons, List.map_nil, add_ii, sub_ii, cmpI, negD, modD, ap_lenL, ap_lenT, intD, int1, int2, walkD, if_true, if_false, decide_eq_true_eq, Bool.false_eq_true, reduceIte, Nat.reduceAdd, Nat.reduceSub, List.replicate_succ, List.replicate_zero, List.cons_append, List.nil_append]
      by_cases c : C.1 < lcp (w.drop st) (p.2.drop k)
      · have c' : (C.1 : Int) < (lcp (w.drop st) (p.2.drop k) : Nat) := by omega
        have e1 : bstep w st p C k = (lcp (w.drop st) (p.2.drop k), p.1, k) := if_pos c
        have e2 : lD (lcp (w.drop st) (p.2.drop k), p.1, k) = .tuple [.int (lcp (w.drop st) (p.2.drop k) : Nat), .tuple [.int p.1, .int k]] := if_neg (by show ¬ lcp _ _ = 0; omega)
        rw [e1, e2]
        simp only [ap_var, ap_c, ap_m1, ap_m2, ap_m3, ap_part, ap_nopart, ap_if, ap_isN, ap_notN, ap_list, ap_tup, ap_nil, ap_cons, ap_cb, ap_m1m, ap_chain, ap_isi, ap_mB, ap_asB, ap_and, ap_or, ap_not, ap_yes, ap_call, ap_lc, ap_noX, ap_iseq, ap_iown, ap_seq, th_nx, th_rt, th_exc, ap_skip, ap_set, ap_asg, ap_aug, ap_lm, ap_put, ap_oif, ap_ret, ap_drop, ap_raise, ap_gN, ap_gT, ap_gsN, ap_gsC, ap_app, Res.bind_ok, Res.bind_exc, Res.of_some, exOut_ok, exOut_exc, wipeE, Option.bind_some, List.length_cons, List.length_nil, List.getElem?_cons_zero, List.getElem?_cons_succ, List.set_cons_zero, List.set_cons_succ, List.map_cons, List.map_nil, add_ii, sub_ii, cmpI, negD, modD, ap_lenL, ap_lenT, intD, int1, int2, walkD, if_true, if_false, decide_eq_true_eq, Bool.false_eq_true, reduceIte, Nat.reduceAdd, Nat.reduceSub, List.replicate_succ, List.replicate_zero, List.cons_append, List.nil_append, hl, c', decide_true, z2]
      · have c' : ¬ (C.1 : Int) < (lcp (w.drop st) (p.2.drop k) : Nat) := by omega
        have e1 : bstep w st p C k = C := if_neg c
        rw [e1]
        simp only [ap_var, ap_c, ap_m1, ap_m2, ap_m3, ap_part, ap_nopart, ap_if, ap_isN, ap_notN, ap_list, ap_tup, ap_nil, ap_cons, ap_cb, ap_m1m, ap_chain, ap_isi, ap_mB, ap_asB, ap_and, ap_or, ap_not, ap_yes, ap_call, ap_lc, ap_noX, ap_iseq, ap_iown, ap_seq, th_nx, th_rt, th_exc, ap_skip, ap_set, ap_asg, ap_aug, ap_lm, ap_put, ap_oif, ap_ret, ap_drop, ap_raise, ap_gN, ap_gT, ap_gsN, ap_gsC, ap_app, Res.bind_ok, Res.bind_exc, Res.of_some, exOut_ok, exOut_exc, wipeE, Option.bind_some, List.length_cons, List.length_nil, List.getElem?_cons_zero, List.getElem?_cons_succ, List.set_cons_zero, List.set_cons_succ, List.map_cons, List.map_nil, add_ii, sub_ii, cmpI, negD, modD, ap_lenL, ap_lenT, intD, int1, int2, walkD, if_true, if_false, decide_eq_true_eq, Bool.false_eq_true, reduceIte, Nat.reduceAdd, Nat.reduceSub, List.replicate_succ, List.replicate_zero, List.cons_append, List.nil_append, hl, c', decide_false]
    · rintro e ⟨j6, j7, rfl⟩
      rw [rng_len]
      exact ⟨_, rfl, _, _, rfl⟩
  · rintro e ⟨j4, j5, j6, j7, rfl⟩
    rw [List.length_map, List.take_length]
    exact ⟨_, ret_ok (var_ok rfl), rfl⟩
/-! ### pieces -/
inductive Pc where
  | l (c : Nat) | c (n k s : Int)
def pcD : Pc → D
  | .l c => .tuple [.str ("letter" : String), .str (txS [c])]
  | .c n k s => .tuple [.str ("copy" : String), .int n, .int k, .int s]
def pcA (hs : Ho) (w : List Nat) (st : Nat) : Pc := if (bst hs w st).1 = 0 then .l (w.getD st 0) else .c (bst hs w st).2.1 (bst hs w st).2.2 (bst hs w st).1
def grF (hs : Ho) (w : List Nat) : Nat → Nat → List Pc
  | 0, _ => []
  | n + 1, st => if st < w.length then pcA hs w st :: grF hs w n (nxt hs w st) else []
theorem grF_stop {hs : Ho} {w : List Nat} {n st : Nat} (h : w.length ≤ st) : grF hs w n st = [] := by
  cases n with
  | zero => rfl
  | succ n => exact if_neg (by omega)
theorem grF_fuel (hs : Ho) (w : List Nat) : ∀ (n n' st : Nat), w.length ≤ st + n → w.length ≤ st + n' → grF hs w n st = grF hs w n' st
  | 0, n', st, h, _ => by rw [grF_stop (by omega), grF_stop (by omega)]
  | n + 1, 0, st, _, h => by rw [grF_stop (by omega), grF_stop (by omega)]
  | n + 1, n' + 1, st, h, h' => by
    have := nxt_gt hs w st
    rw [grF, grF, grF_fuel hs w n n' (nxt hs w st) (by omega) (by omega)]
theorem grF_step {hs : Ho} {w : List Nat} {n st : Nat} (h : w.length ≤ st + n) (h2 : st < w.length) : grF hs w n st = pcA hs w st :: grF hs w n (nxt hs w st) := by
  have := nxt_gt hs w st
  cases n with
  | zero => omega
  | succ n =>
    rw [grF, if_pos h2, grF_fuel hs w n (n + 1) (nxt hs w st) (by omega) (by omega)]
theorem grF_len (hs : Ho) (w : List Nat) : ∀ n st, (grF hs w n st).length = gc (nxt hs w) n st w.length
  | 0, st => rfl
  | n + 1, st => by
    rw [grF, gc]
    split
    · rw [List.length_cons, grF_len hs w n]
    · rfl
def grd (hs : Ho) (w : List Nat) : List Pc := grF hs w w.length 0
theorem cut_ok {hs : Ho} (hb : HB hs) {w : List Nat} (hw : w.length ≤ 1000) : m_cut_word [hD hs, .str (txS w)] = .ok (.list ((grd hs w).map pcD)) := by
  suffices H : ∃ x, o_cut_word [some (hD hs), some (.str (txS w)), none, none, none, none] = x ∧ x = .rt (.list ((grd hs w).map pcD)) by
    obtain ⟨x, h1, rfl⟩ := H
    exact run_rt h1
  have z0 : 0 ≤ sizeLine := sz_ge (by omega)
  have z2 : 2 ≤ sizeLine := sz_ge (by omega)
  have z4 : 4 ≤ sizeLine := sz_ge (by omega)
  have zw : w.length ≤ sizeLine := sz_ge (by omega)
  have lw := ap_lenS zw
  refine seq_ex (e := [some (hD hs), some (.str (txS w)), some (.list (([] : List Pc).map pcD)), none, none, none]) ?_ ?_
  · simp only [ap_var, ap_c, ap_m1, ap_m2, ap_m3, ap_part, ap_nopart, ap_if, ap_isN, ap_notN, ap_list, ap_tup, ap_nil, ap_cons, ap_cb, ap_m1m, ap_chain, ap_isi, ap_mB, ap_asB, ap_and, ap_or, ap_not, ap_yes, ap_call, ap_lc, ap_noX, ap_iseq, ap_iown, ap_seq, th_nx, th_rt, th_exc, ap_skip, ap_set, ap_asg, ap_aug, ap_lm, ap_put, ap_oif, ap_ret, ap_drop, ap_raise, ap_gN, ap_gT, ap_gsN, ap_gsC, ap_app, Res.bind_ok, Res.bind_exc, Res.of_some, exOut_ok, exOut_exc, wipeE, Option.bind_some, List.length_cons, List.length_nil, List.getElem?_cons_zero, List.getElem?_cons_succ, List.set_cons_zero, List.set_cons_succ, List.map_cons, List.map_nil, add_ii, sub_ii, cmpI, negD, modD, ap_lenL, ap_lenT, intD, int1, int2, walkD, if_true, if_false, decide_eq_true_eq, Bool.false_eq_true, reduceIte, Nat.reduceAdd, Nat.reduceSub, List.replicate_succ, List.replicate_zero, List.cons_append, List.nil_append, z0]
  refine seq_ex (e := [some (hD hs), some (.str (txS w)), some (.list (([] : List Pc).map pcD)), some (.int ((0 : Nat) : Int)), none, none]) ?_ ?_
  · simp only [ap_var, ap_c, ap_m1, ap_m2, ap_m3, ap_part, ap_nopart, ap_if, ap_isN, ap_notN, ap_list, ap_tup, ap_nil, ap_cons, ap_cb, ap_m1m, ap_chain, ap_isi, ap_mB, ap_asB, ap_and, ap_or, ap_not, ap_yes, ap_call, ap_lc, ap_noX, ap_iseq, ap_iown, ap_seq, th_nx, th_rt, th_exc, ap_skip, ap_set, ap_asg, ap_aug, ap_lm, ap_put, ap_oif, ap_ret, ap_drop, ap_raise, ap_gN, ap_gT, ap_gsN, ap_gsC, ap_app, Res.bind_ok, Res.bind_exc, Res.of_some, exOut_ok, exOut_exc, wipeE, Option.bind_some, List.length_cons, List.length_nil, List.getElem?_cons_zero, List.getElem?_cons_succ, List.set_cons_zero, List.set_cons_succ, List.map_cons, List.map_nil, add_ii, sub_ii, cmpI, negD, modD, ap_lenL, ap_lenT, intD, int1, int2, walkD, if_true, if_false, decide_eq_true_eq, Bool.false_eq_true, reduceIte, Nat.reduceAdd, Nat.reduceSub, List.replicate_succ, List.replicate_zero, List.cons_append, List.nil_append]
    rfl
  refine seq_while (fun n e => ∃ (pre : List Pc) (st : Nat) (j4 j5 : Option D), e = [some (hD hs), some (.str (txS w)), some (.list (pre.map pcD)), some (.int (st : Nat)), j4, j5] ∧ pre ++ grF hs w w.length st = grd hs w ∧ pre.length ≤ st ∧ n = w.length - st) w.length ?_ ⟨[], 0, _, _, rfl, rfl, Nat.le_refl _, by omega⟩ ?_ ?_
  · show w.length < 1000000000
    omega
  · rintro n e ⟨pre, st, j4, j5, rfl, q1, q2, rfl⟩
    by_cases h : st < w.length
    · have h' : (st : Int) < (w.length : Int) := by omega
      refine .inr ⟨by simp only [ap_var, ap_c, ap_m1, ap_m2, ap_m3, ap_part, ap_nopart, ap_if, ap_isN, ap_notN, ap_list, ap_tup, ap_nil, ap_cons, ap_cb, ap_m1m, ap_chain, ap_isi, ap_mB, ap_asB, ap_and, ap_or, ap_not, ap_yes, ap_call, ap_lc, ap_noX, ap_iseq, ap_iown, ap_seq, th_nx, th_rt, th_exc, ap_skip, ap_set, ap_asg, ap_aug, ap_lm, ap_put, ap_oif, ap_ret, ap_drop, ap_raise, ap_gN, ap_gT, ap_gsN, ap_gsC, ap_app, Res.bind_ok, Res.bind_exc, Res.of_some, exOut_ok, exOut_exc, wipeE, Option.bind_some, List.length_cons, List.length_nil, List.getElem?_cons_zero, List.getElem?_cons_succ, List.set_cons_zero, List.set_cons_succ, List.map_cons, List.map_nil, add_ii, sub_ii, cmpI, negD, modD, ap_lenL, ap_lenT, intD, int1, int2, walkD, if_true, if_false, decide_eq_true_eq, Bool.false_eq_true, reduceIte, Nat.reduceAdd, Nat.reduceSub, List.replicate_succ, List.replicate_zero, List.cons_append, List.nil_append, lw, h', decide_true], ?_⟩
      have hl := longest_ok hb hw st
      rw [grF_step (by omega) h] at q1
      have hg := nxt_gt hs w st
      have hzz : (pre.map pcD).length < sizeLine := sz_gt (by simp; omega)
      have hle := bst_le hs w st
      by_cases c : (bst hs w st).1 = 0
      · have e1 : pcA hs w st = .l (w.getD st 0) := if_pos c
        have e2 : lD (bst hs w st) = .tuple [.int 0, .none] := if_pos c
        have e3 : nxt hs w st = st + 1 := by unfold nxt; omega
        rw [e2] at hl
        rw [e1, e3] at q1
        have hix := ix_str zw (get_getD h)
        have q0 : eqD (.int 0) (.int 0) = some (.bool true) := eqi (b := true) (decide_eq_true rfl)
        refine ⟨[some (hD hs), some (.str (txS w)), some (.list ((pre ++ [Pc.l (w.getD st 0)]).map pcD)), some (.int ((st + 1 : Nat) : Int)), some (.int 0), some .none], w.length - (st + 1), ?_, by omega, pre ++ [.l (w.getD st 0)], st + 1, _, _, rfl, by rw [List.append_assoc]; exact q1, by simp; omega, rfl⟩
        refine seq_nx (e := [some (hD hs), some (.str (txS w)), some (.list (pre.map pcD)), some (.int (st : Nat)), some (.int 0), some .none]) ?_ ?_
        · simp only [ap_var, ap_c, ap_m1, ap_m2, ap_m3, ap_part, ap_nopart, ap_if, ap_isN, ap_notN, ap_list, ap_tup, ap_nil, ap_cons, ap_cb, ap_m1m, ap_chain, ap_isi, ap_mB, ap_asB, ap_and, ap_or, ap_not, ap_yes, ap_call, ap_lc, ap_noX, ap_iseq, ap_iown, ap_seq, th_nx, th_rt, th_exc, ap_skip, ap_set, ap_asg, ap_aug, ap_lm, ap_put, ap_oif, ap_ret, ap_drop, ap_raise, ap_gN, ap_gT, ap_gsN, ap_gsC, ap_app, Res.bind_ok, Res.bind_exc, Res.of_some, exOut_ok, exOut_exc, wipeE, Option.bind_some, List.length_cons, List.length_nil, List.getElem?_cons_zero, List.getElem?_cons_succ, List.set_cons_zero, List.set_cons_succ, List.map_cons, List.map_nil, add_ii, sub_ii, cmpI, negD, modD, ap_lenL, ap_lenT, intD, int1, int2, walkD, if_true, if_false, decide_eq_true_eq, Bool.false_eq_true, reduceIte, Nat.reduceAdd, Nat.reduceSub, List.replicate_succ, List.replicate_zero, List.cons_append, List.nil_append, hl]
        have hmx : maxD [.int 0, .int 1] = some (.int 1) := rfl
        rw [List.map_append]
        simp only [ap_var, ap_c, ap_m1, ap_m2, ap_m3, ap_part, ap_nopart, ap_if, ap_isN, ap_notN, ap_list, ap_tup, ap_nil, ap_cons, ap_cb, ap_m1m, ap_chain, ap_isi, ap_mB, ap_asB, ap_and, ap_or, ap_not, ap_yes, ap_call, ap_lc, ap_noX, ap_iseq, ap_iown, ap_seq, th_nx, th_rt, th_exc, ap_skip, ap_set, ap_asg, ap_aug, ap_lm, ap_put, ap_oif, ap_ret, ap_drop, ap_raise, ap_gN, ap_gT, ap_gsN, ap_gsC, ap_app, Res.bind_ok, Res.bind_exc, Res.of_some, exOut_ok, exOut_exc, wipeE, Option.bind_some, List.length_cons, List.length_nil, List.getElem?_cons_zero, List.getElem?_cons_succ, List.set_cons_zero, List.set_cons_succ, List.map_cons, List.map_nil, add_ii, sub_ii, cmpI, negD, modD, ap_lenL, ap_lenT, intD, int1, int2, walkD, if_true, if_false, decide_eq_true_eq, Bool.false_eq_true, reduceIte, Nat.reduceAdd, Nat.reduceSub, List.replicate_succ, List.replicate_zero, List.cons_append, List.nil_append, q0, hix, z2, hzz, augAdd]
        rw [show ((st + 1 : Nat) : Int) = (st : Int) + 1 by omega]
        rfl
      · have e1 : pcA hs w st = .c (bst hs w st).2.1 (bst hs w st).2.2 (bst hs w st).1 := if_neg c
        have e2 : lD (bst hs w st) = .tuple [.int (bst hs w st).1, .tuple [.int (bst hs w st).2.1, .int (bst hs w st).2.2]] := if_neg c
        have e3 : nxt hs w st = st + (bst hs w st).1 := by unfold nxt; omega
        rw [e2] at hl
        rw [e1, e3] at q1
        generalize bst hs w st = B at hl q1 c hle
        have q0 : eqD (.int (B.1 : Nat)) (.int 0) = some (.bool false) := eqi (b := false) (decide_eq_false (by omega))
        have hmx : (if (1 : Int) > (B.1 : Int) then (1 : Int) else (B.1 : Int)) = (B.1 : Int) := by split <;> omega
        refine ⟨[some (hD hs), some (.str (txS w)), some (.list ((pre ++ [Pc.c B.2.1 B.2.2 B.1]).map pcD)), some (.int ((st + B.1 : Nat) : Int)), some (.int B.1), some (.tuple [.int B.2.1, .int B.2.2])], w.length - (st + B.1), ?_, by omega, pre ++ [.c B.2.1 B.2.2 B.1], st + B.1, _, _, rfl, by rw [List.append_assoc]; exact q1, by simp; omega, rfl⟩
        refine seq_nx (e := [some (hD hs), some (.str (txS w)), some (.list (pre.map pcD)), some (.int (st : Nat)), some (.int B.1), some (.tuple [.int B.2.1, .int B.2.2])]) ?_ ?_
        · simp only [ap_var, ap_c, ap_m1, ap_m2, ap_m3, ap_part, ap_nopart, ap_if, ap_isN, ap_notN, ap_list, ap_tup, ap_nil, ap_cons, ap_cb, ap_m1m, ap_chain, ap_isi, ap_mB, ap_asB, ap_and, ap_or, ap_not, ap_yes, ap_call, ap_lc, ap_noX, ap_iseq, ap_iown, ap_seq, th_nx, th_rt, th_exc, ap_skip, ap_set, ap_asg, ap_aug, ap_lm, ap_put, ap_oif, ap_ret, ap_drop, ap_raise, ap_gN, ap_gT, ap_gsN, ap_gsC, ap_app, Res.bind_ok, Res.bind_exc, Res.of_some, exOut_ok, exOut_exc, wipeE, Option.bind_some, List.length_cons, List.length_nil, List.getElem?_cons_zero, List.getElem?_cons_succ, List.set_cons_zero, List.set_cons_succ, List.map_cons, List.map_nil, add_ii, sub_ii, cmpI, negD, modD, ap_lenL, ap_lenT, intD, int1, int2, walkD, if_true, if_false, decide_eq_true_eq, Bool.false_eq_true, reduceIte, Nat.reduceAdd, Nat.reduceSub, List.replicate_succ, List.replicate_zero, List.cons_append, List.nil_append, hl]
        rw [List.map_append]
        have hstar : (aCons (mC (.str ("copy" : String))) (aStar (mVar 5) (aCons (mVar 4) aNil))) [some (hD hs), some (.str (txS w)), some (.list (pre.map pcD)), some (.int (st : Nat)), some (.int B.1), some (.tuple [.int B.2.1, .int B.2.2])] = .ok [.str ("copy" : String), .int B.2.1, .int B.2.2, .int B.1] := rfl
        rw [ap_seq, ap_oif]
        simp only [ap_mB, ap_asB, ap_m2, ap_var, ap_c, Res.bind_ok, Res.of_some, List.getElem?_cons_zero, List.getElem?_cons_succ, q0, exOut_ok, Bool.false_eq_true, if_false]
        rw [ap_lm]
        simp only [List.getElem?_cons_zero, List.getElem?_cons_succ]
        rw [ap_cons, ap_tup, hstar]
        simp only [ap_var, ap_c, ap_m1, ap_m2, ap_m3, ap_part, ap_nopart, ap_if, ap_isN, ap_notN, ap_list, ap_tup, ap_nil, ap_cons, ap_cb, ap_m1m, ap_chain, ap_isi, ap_mB, ap_asB, ap_and, ap_or, ap_not, ap_yes, ap_call, ap_lc, ap_noX, ap_iseq, ap_iown, ap_seq, th_nx, th_rt, th_exc, ap_skip, ap_set, ap_asg, ap_aug, ap_lm, ap_put, ap_oif, ap_ret, ap_drop, ap_raise, ap_gN, ap_gT, ap_gsN, ap_gsC, ap_app, Res.bind_ok, Res.bind_exc, Res.of_some, exOut_ok, exOut_exc, wipeE, Option.bind_some, List.length_cons, List.length_nil, List.getElem?_cons_zero, List.getElem?_cons_succ, List.set_cons_zero, List.set_cons_succ, List.map_cons, List.map_nil, add_ii, sub_ii, cmpI, negD, modD, ap_lenL, ap_lenT, intD, int1, int2, walkD, if_true, if_false, decide_eq_true_eq, Bool.false_eq_true, reduceIte, Nat.reduceAdd, Nat.reduceSub, List.replicate_succ, List.replicate_zero, List.cons_append, List.nil_append, z4, hzz, augAdd, hmx]
        rw [show ((st + B.1 : Nat) : Int) = (st : Int) + (B.1 : Int) by omega]
        rfl
    · have h' : ¬ (st : Int) < (w.length : Int) := by omega
      exact .inl (by simp only [ap_var, ap_c, ap_m1, ap_m2, ap_m3, ap_part, ap_nopart, ap_if, ap_isN, ap_notN, ap_list, ap_tup, ap_nil, ap_cons, ap_cb, ap_m1m, ap_chain, ap_isi, ap_mB, ap_asB, ap_and, ap_or, ap_not, ap_yes, ap_call, ap_lc, ap_noX, ap_iseq, ap_iown, ap_seq, th_nx, th_rt, th_exc, ap_skip, ap_set, ap_asg, ap_aug, ap_lm, ap_put, ap_oif, ap_ret, ap_drop, ap_raise, ap_gN, ap_gT, ap_gsN, ap_gsC, ap_app, Res.bind_ok, Res.bind_exc, Res.of_some, exOut_ok, exOut_exc, wipeE, Option.bind_some, List.length_cons, List.length_nil, List.getElem?_cons_zero, List.getElem?_cons_succ, List.set_cons_zero, List.set_cons_succ, List.map_cons, List.map_nil, add_ii, sub_ii, cmpI, negD, modD, ap_lenL, ap_lenT, intD, int1, int2, walkD, if_true, if_false, decide_eq_true_eq, Bool.false_eq_true, reduceIte, Nat.reduceAdd, Nat.reduceSub, List.replicate_succ, List.replicate_zero, List.cons_append, List.nil_append, lw, h', decide_false])
  · rintro n e ⟨pre, st, j4, j5, rfl, q1, q2, rfl⟩ hf
    by_cases h : st < w.length
    · have h' : (st : Int) < (w.length : Int) := by omega
      simp only [ap_var, ap_c, ap_m1, ap_m2, ap_m3, ap_part, ap_nopart, ap_if, ap_isN, ap_notN, ap_list, ap_tup, ap_nil, ap_cons, ap_cb, ap_m1m, ap_chain, ap_isi, ap_mB, ap_asB, ap_and, ap_or, ap_not, ap_yes, ap_call, ap_lc, ap_noX, ap_iseq, ap_iown, ap_seq, th_nx, th_rt, th_exc, ap_skip, ap_set, ap_asg, ap_aug, ap_lm, ap_put, ap_oif, ap_ret, ap_drop, ap_raise, ap_gN, ap_gT, ap_gsN, ap_gsC, ap_app, Res.bind_ok, Res.bind_exc, Res.of_some, exOut_ok, exOut_exc, wipeE, Option.bind_some, List.length_cons, List.length_nil, List.getElem?_cons_zero, List.getElem?_cons_succ, List.set_cons_zero, List.set_cons_succ, List.map_cons, List.map_nil, add_ii, sub_ii, cmpI, negD, modD, ap_lenL, ap_lenT, intD, int1, int2, walkD, if_true, if_false, decide_eq_true_eq, Bool.false_eq_true, reduceIte, Nat.reduceAdd, Nat.reduceSub, List.replicate_succ, List.replicate_zero, List.cons_append, List.nil_append, lw, h', decide_true] at hf
      cases hf
    · rw [grF_stop (by omega), List.append_nil] at q1
      refine ⟨_, ret_ok (var_ok rfl), by rw [q1]⟩
end K48

namespace K48
open PySem PySem.Spec L2 DL
theorem lpieces_ok {hs : Ho} (hb : HB hs) {w : List Nat} (hw : w.length ≤ 1000) : m__law_pieces [hD hs, .str (txS w)] = .ok (.list ((grd hs w).map pcD)) := by
  suffices H : ∃ x, o__law_pieces [some (hD hs), some (.str (txS w)), none, none, none, none, none, none] = x ∧ x = .rt (.list ((grd hs w).map pcD)) by
    obtain ⟨x, h1, rfl⟩ := H
    exact run_rt h1
  have z0 : 0 ≤ sizeLine := sz_ge (by omega)
  have z2 : 2 ≤ sizeLine := sz_ge (by omega)
  have z3 : 3 ≤ sizeLine := sz_ge (by omega)
  have z4 : 4 ≤ sizeLine := sz_ge (by omega)
  have zw : w.length ≤ sizeLine := sz_ge (by omega)
  have lw := ap_lenS zw
  refine seq_ex (e := [some (hD hs), some (.str (txS w)), some (.list (([] : List Pc).map pcD)), none, none, none, none, none]) ?_ ?_
  · simp only [ap_var, ap_c, ap_m1, ap_m2, ap_m3, ap_part, ap_nopart, ap_if, ap_isN, ap_notN, ap_list, ap_tup, ap_nil, ap_cons, ap_cb, ap_m1m, ap_chain, ap_isi, ap_mB, ap_asB, ap_and, ap_or, ap_not, ap_yes, ap_call, ap_lc, ap_noX, ap_iseq, ap_iown, ap_seq, th_nx, th_rt, th_exc, ap_skip, ap_set, ap_asg, ap_aug, ap_lm, ap_put, ap_oif, ap_ret, ap_drop, ap_raise, ap_gN, ap_gT, ap_gsN, ap_gsC, ap_app, Res.bind_ok, Res.bind_exc, Res.of_some, exOut_ok, exOut_exc, wipeE, Option.bind_some, List.length_cons, List.length_nil, List.getElem?_cons_zero, List.getElem?_cons_succ, List.set_cons_zero, List.set_cons_succ, List.map_cons, List.map_nil, add_ii, sub_ii, cmpI, negD, modD, ap_lenL, ap_lenT, intD, int1, int2, walkD, if_true, if_false, decide_eq_true_eq, Bool.false_eq_true, reduceIte, Nat.reduceAdd, Nat.reduceSub, List.replicate_succ, List.replicate_zero, List.cons_append, List.nil_append, z0]
  refine seq_ex (e := [some (hD hs), some (.str (txS w)), some (.list (([] : List Pc).map pcD)), some (.int ((0 : Nat) : Int)), none, none, none, none]) ?_ ?_
  · simp only [ap_var, ap_c, ap_m1, ap_m2, ap_m3, ap_part, ap_nopart, ap_if, ap_isN, ap_notN, ap_list, ap_tup, ap_nil, ap_cons, ap_cb, ap_m1m, ap_chain, ap_isi, ap_mB, ap_asB, ap_and, ap_or, ap_not, ap_yes, ap_call, ap_lc, ap_noX, ap_iseq, ap_iown, ap_seq, th_nx, th_rt, th_exc, ap_skip, ap_set, ap_asg, ap_aug, ap_lm, ap_put, ap_oif, ap_ret, ap_drop, ap_raise, ap_gN, ap_gT, ap_gsN, ap_gsC, ap_app, Res.bind_ok, Res.bind_exc, Res.of_some, exOut_ok, exOut_exc, wipeE, Option.bind_some, List.length_cons, List.length_nil, List.getElem?_cons_zero, List.getElem?_cons_succ, List.set_cons_zero, List.set_cons_succ, List.map_cons, List.map_nil, add_ii, sub_ii, cmpI, negD, modD, ap_lenL, ap_lenT, intD, int1, int2, walkD, if_true, if_false, decide_eq_true_eq, Bool.false_eq_true, reduceIte, Nat.reduceAdd, Nat.reduceSub, List.replicate_succ, List.replicate_zero, List.cons_append, List.nil_append]
    rfl
  refine seq_while (fun n e => ∃ (pre : List Pc) (st : Nat) (j4 j5 j6 j7 : Option D), e = [some (hD hs), some (.str (txS w)), some (.list (pre.map pcD)), some (.int (st : Nat)), j4, j5, j6, j7] ∧ pre ++ grF hs w w.length st = grd hs w ∧ pre.length ≤ st ∧ n = w.length - st) w.length ?_ ⟨[], 0, _, _, _, _, rfl, rfl, Nat.le_refl _, by omega⟩ ?_ ?_
  · show w.length < 1000000000
    omega
  · rintro n e ⟨pre, st, j4, j5, j6, j7, rfl, q1, q2, rfl⟩
    by_cases h : st < w.length
    · have h' : (st : Int) < (w.length : Int) := by omega
      refine .inr ⟨by simp only [ap_var, ap_c, ap_m1, ap_m2, ap_m3, ap_part, ap_nopart, ap_if, ap_isN, ap_notN, ap_list, ap_tup, ap_nil, ap_cons, ap_cb, ap_m1m, ap_chain, ap_isi, ap_mB, ap_asB, ap_and, ap_or, ap_not, ap_yes, ap_call, ap_lc, ap_noX, ap_iseq, ap_iown, ap_seq, th_nx, th_rt, th_exc, ap_skip, ap_set, ap_asg, ap_aug, ap_lm, ap_put, ap_oif, ap_ret, ap_drop, ap_raise, ap_gN, ap_gT, ap_gsN, ap_gsC, ap_app, Res.bind_ok, Res.bind_exc, Res.of_some, exOut_ok, exOut_exc, wipeE, Option.bind_some, List.length_cons, List.length_nil, List.getElem?_cons_zero, List.getElem?_cons_succ, List.set_cons_zero, List.set_cons_succ, List.map_cons, List.map_nil, add_ii, sub_ii, cmpI, negD, modD, ap_lenL, ap_lenT, intD, int1, int2, walkD, if_true, if_false, decide_eq_true_eq, Bool.false_eq_true, reduceIte, Nat.reduceAdd, Nat.reduceSub, List.replicate_succ, List.replicate_zero, List.cons_append, List.nil_append, lw, h', decide_true], ?_⟩
      rw [grF_step (by omega) h] at q1
      have hg := nxt_gt hs w st
      have hzz : (pre.map pcD).length < sizeLine := sz_gt (by simp; omega)
      have hle := bst_le hs w st
      have hix := ix_str zw (get_getD h)
      -- the loops
      have lp : ∃ k5 k6 k7, (oFor (iSeq (mVar 0)) (gT' 2 (gsC (gN 5) (gsC (gN 6) gsN))) (oSeq (oFor (iRange (aCons (mCB lenD (aCons (mVar 6) aNil)) aNil)) (gN 7) (oSeq (oIf (mB (m2 gtI (mCall m__law_alike (aCons (mVar 1) (aCons (mVar 3) (aCons (mVar 6) (aCons (mVar 7) aNil))))) (m2 ixD (mVar 4) (mC (.int 0))))) (oSet 4 (mTup (aCons (mCall m__law_alike (aCons (mVar 1) (aCons (mVar 3) (aCons (mVar 6) (aCons (mVar 7) aNil))))) (aCons (mVar 5) (aCons (mVar 7) aNil))))) oSkip) oSkip)) oSkip)) [some (hD hs), some (.str (txS w)), some (.list (pre.map pcD)), some (.int (st : Nat)), some (bD (0, 0, 0)), j5, j6, j7] = .nx [some (hD hs), some (.str (txS w)), some (.list (pre.map pcD)), some (.int (st : Nat)), some (bD (bst hs w st)), k5, k6, k7] := by
        obtain ⟨e, h1, j5', j6', j7', h2⟩ := for_all (fun i e => ∃ j5 j6 j7, e = [some (hD hs), some (.str (txS w)), some (.list (pre.map pcD)), some (.int (st : Nat)), some (bD (bfr w st (0, 0, 0) (hs.take i))), j5, j6, j7]) (hs.map enD) (env := [some (hD hs), some (.str (txS w)), some (.list (pre.map pcD)), some (.int (st : Nat)), some (bD (0, 0, 0)), j5, j6, j7]) (mi := iSeq (mVar 0)) (g := gT' 2 (gsC (gN 5) (gsC (gN 6) gsN))) (o := (oSeq (oFor (iRange (aCons (mCB lenD (aCons (mVar 6) aNil)) aNil)) (gN 7) (oSeq (oIf (mB (m2 gtI (mCall m__law_alike (aCons (mVar 1) (aCons (mVar 3) (aCons (mVar 6) (aCons (mVar 7) aNil))))) (m2 ixD (mVar 4) (mC (.int 0))))) (oSet 4 (mTup (aCons (mCall m__law_alike (aCons (mVar 1) (aCons (mVar 3) (aCons (mVar 6) (aCons (mVar 7) aNil))))) (aCons (mVar 5) (aCons (mVar 7) aNil))))) oSkip) oSkip)) oSkip)) rfl ⟨_, _, _, rfl⟩ (by
          rintro i d e hd ⟨j5, j6, j7, rfl⟩
          obtain ⟨p, hp, rfl⟩ := map_get hd
          have hp2 := hb.2.1 p (List.mem_of_getElem? hp)
          have lp := ap_lenS (xs := p.2) (sz_ge (by omega))
          rw [take_ho hp]
          generalize bfr w st (0, 0, 0) (hs.take i) = B
          obtain ⟨e, h1, j7', h2⟩ := for_all (fun k e => ∃ j7, e = [some (hD hs), some (.str (txS w)), some (.list (pre.map pcD)), some (.int (st : Nat)), some (bD (bin w st p B k)), some (.int p.1), some (.str (txS p.2)), j7]) (rng 0 p.2.length) (env := [some (hD hs), some (.str (txS w)), some (.list (pre.map pcD)), some (.int (st : Nat)), some (bD B), some (.int p.1), some (.str (txS p.2)), j7]) (mi := iRange (aCons (mCB lenD (aCons (mVar 6) aNil)) aNil)) (g := gN 7) (o := (oSeq (oIf (mB (m2 gtI (mCall m__law_alike (aCons (mVar 1) (aCons (mVar 3) (aCons (mVar 6) (aCons (mVar 7) aNil))))) (m2 ixD (mVar 4) (mC (.int 0))))) (oSet 4 (mTup (aCons (mCall m__law_alike (aCons (mVar 1) (aCons (mVar 3) (aCons (mVar 6) (aCons (mVar 7) aNil))))) (aCons (mVar 5) (aCons (mVar 7) aNil))))) oSkip) oSkip)) (irange_ok (l := [.int p.2.length]) (by simp only [ap_var, ap_c, ap_m1, ap_m2, ap_m3, ap_part, ap_nopart, ap_if, ap_isN, ap_notN, ap_list, ap_tup, ap_nil, ap_cons, ap_cb, ap_m1m, ap_chain, ap_isi, ap_mB, ap_asB, ap_and, ap_or, ap_not, ap_yes, ap_call, ap_lc, ap_noX, ap_iseq, ap_iown, ap_seq, th_nx, th_rt, th_exc, ap_skip, ap_set, ap_asg, ap_aug, ap_lm, ap_put, ap_oif, ap_ret, ap_drop, ap_raise, ap_gN, ap_gT, ap_gsN, ap_gsC, ap_app, Res.bind_ok, Res.bind_exc, Res.of_some, exOut_ok, exOut_exc, wipeE, Option.bind_some, List.length_cons, List.length_nil, List.getElem?_cons_zero, List.getElem?_cons_succ, List.set_cons_zero, List.set_cons_succ, List.map_cons, List.map_nil, add_ii, sub_ii, cmpI, negD, modD, ap_lenL, ap_lenT, intD, int1, int2, walkD, if_true, if_false, decide_eq_true_eq, Bool.false_eq_true, reduceIte, Nat.reduceAdd, Nat.reduceSub, List.replicate_succ, List.replicate_zero, List.cons_append, List.nil_append, lp]) (range1 (by omega))) ⟨_, rfl⟩ (by
            rintro k d e hd ⟨j7, rfl⟩
            rw [rng_get] at hd
            split at hd <;> cases hd
            rw [Int.zero_add]
            have ha := lalike_ok (i := st) (j := k) hw (show p.2.length ≤ 1000 by omega)
            have hl := bD0 (bin w st p B k)
            refine ⟨_, [some (hD hs), some (.str (txS w)), some (.list (pre.map pcD)), some (.int (st : Nat)), some (bD (bin w st p B (k + 1))), some (.int p.1), some (.str (txS p.2)), some (.int (k : Int))], rfl, ?_, _, rfl⟩
            rw [bin_succ]
            generalize bin w st p B k = C at hl
            by_cases c : C.1 < lcp (w.drop st) (p.2.drop k)
            · have c' : (C.1 : Int) < (lcp (w.drop st) (p.2.drop k) : Nat) := by omega
              have e1 : bstep w st p C k = (lcp (w.drop st) (p.2.drop k), p.1, k) := if_pos c
              rw [e1]
              simp only [ap_var, ap_c, ap_m1, ap_m2, ap_m3, ap_part, ap_nopart, ap_if, ap_isN, ap_notN, ap_list, ap_tup, ap_nil, ap_cons, ap_cb, ap_m1m, ap_chain, ap_isi, ap_mB, ap_asB, ap_and, ap_or, ap_not, ap_yes, ap_call, ap_lc, ap_noX, ap_iseq, ap_iown, ap_seq, th_nx, th_rt, th_exc, ap_skip, ap_set, ap_asg, ap_aug, ap_lm, ap_put, ap_oif, ap_ret, ap_drop, ap_raise, ap_gN, ap_gT, ap_gsN, ap_gsC, ap_app, Res.bind_ok, Res.bind_exc, Res.of_some, exOut_ok, exOut_exc, wipeE, Option.bind_some, List.length_cons, List.length_nil, List.getElem?_cons_zero, List.getElem?_cons_succ, List.set_cons_zero, List.set_cons_succ, List.map_cons, List.map_nil, add_ii, sub_ii, cmpI, negD, modD, ap_lenL, ap_lenT, intD, int1, int2, walkD, if_true, if_false, decide_eq_true_eq, Bool.false_eq_true, reduceIte, Nat.reduceAdd, Nat.reduceSub, List.replicate_succ, List.replicate_zero, List.cons_append, List.nil_append, ha, hl, c', decide_true, z3]
              rfl
            · have c' : ¬ (C.1 : Int) < (lcp (w.drop st) (p.2.drop k) : Nat) := by omega
              have e1 : bstep w st p C k = C := if_neg c
              rw [e1]
              simp only [ap_var, ap_c, ap_m1, ap_m2, ap_m3, ap_part, ap_nopart, ap_if, ap_isN, ap_notN, ap_list, ap_tup, ap_nil, ap_cons, ap_cb, ap_m1m, ap_chain, ap_isi, ap_mB, ap_asB, ap_and, ap_or, ap_not, ap_yes, ap_call, ap_lc, ap_noX, ap_iseq, ap_iown, ap_seq, th_nx, th_rt, th_exc, ap_skip, ap_set, ap_asg, ap_aug, ap_lm, ap_put, ap_oif, ap_ret, ap_drop, ap_raise, ap_gN, ap_gT, ap_gsN, ap_gsC, ap_app, Res.bind_ok, Res.bind_exc, Res.of_some, exOut_ok, exOut_exc, wipeE, Option.bind_some, List.length_cons, List.length_nil, List.getElem?_cons_zero, List.getElem?_cons_succ, List.set_cons_zero, List.set_cons_succ, List.map_cons, List.map_nil, add_ii, sub_ii, cmpI, negD, modD, ap_lenL, ap_lenT, intD, int1, int2, walkD, if_true, if_false, decide_eq_true_eq, Bool.false_eq_true, reduceIte, Nat.reduceAdd, Nat.reduceSub, List.replicate_succ, List.replicate_zero, List.cons_append, List.nil_append, ha, hl, c', decide_false])
          subst h2
          rw [rng_len] at h1
          exact ⟨_, _, rfl, seq_nx h1 rfl, _, _, _, rfl⟩)
        subst h2
        rw [List.length_map, List.take_length] at h1
        exact ⟨_, _, _, h1⟩
      obtain ⟨j5', j6', j7', hlp⟩ := lp
      have b0 := bD0 (bst hs w st)
      have b1 := bD1 (bst hs w st)
      have b2 := bD2 (bst hs w st)
      have e3 : nxt hs w st = st + max 1 (bst hs w st).1 := rfl
      have hmx : (if ((bst hs w st).1 : Int) > 1 then ((bst hs w st).1 : Int) else 1) = ((max 1 (bst hs w st).1 : Nat) : Int) := by split <;> omega
      have hpc : ixD (.list [.tuple [.str ("letter" : String), .str (txS [w.getD st 0])], .tuple [.str ("copy" : String), .int (bst hs w st).2.1, .int (bst hs w st).2.2, .int (bst hs w st).1]]) (.int (if (0 : Int) < ((bst hs w st).1 : Int) then 1 else 0)) = some (pcD (pcA hs w st)) := by
        unfold pcA
        by_cases c : (bst hs w st).1 = 0
        · rw [if_pos c, if_neg (by omega)]
          exact ix_nat (n := 0) rfl
        · rw [if_neg c, if_pos (by omega)]
          exact ix_nat (n := 1) rfl
      refine ⟨[some (hD hs), some (.str (txS w)), some (.list ((pre ++ [pcA hs w st]).map pcD)), some (.int (nxt hs w st : Nat)), some (bD (bst hs w st)), j5', j6', j7'], w.length - nxt hs w st, ?_, by omega, pre ++ [pcA hs w st], nxt hs w st, _, _, _, _, rfl, by rw [List.append_assoc]; exact q1, by simp; omega, rfl⟩
      rw [e3]
      refine seq_nx (e := [some (hD hs), some (.str (txS w)), some (.list (pre.map pcD)), some (.int (st : Nat)), some (bD (0, 0, 0)), j5, j6, j7]) ?_ ?_
      · simp only [ap_var, ap_c, ap_m1, ap_m2, ap_m3, ap_part, ap_nopart, ap_if, ap_isN, ap_notN, ap_list, ap_tup, ap_nil, ap_cons, ap_cb, ap_m1m, ap_chain, ap_isi, ap_mB, ap_asB, ap_and, ap_or, ap_not, ap_yes, ap_call, ap_lc, ap_noX, ap_iseq, ap_iown, ap_seq, th_nx, th_rt, th_exc, ap_skip, ap_set, ap_asg, ap_aug, ap_lm, ap_put, ap_oif, ap_ret, ap_drop, ap_raise, ap_gN, ap_gT, ap_gsN, ap_gsC, ap_app, Res.bind_ok, Res.bind_exc, Res.of_some, exOut_ok, exOut_exc, wipeE, Option.bind_some, List.length_cons, List.length_nil, List.getElem?_cons_zero, List.getElem?_cons_succ, List.set_cons_zero, List.set_cons_succ, List.map_cons, List.map_nil, add_ii, sub_ii, cmpI, negD, modD, ap_lenL, ap_lenT, intD, int1, int2, walkD, if_true, if_false, decide_eq_true_eq, Bool.false_eq_true, reduceIte, Nat.reduceAdd, Nat.reduceSub, List.replicate_succ, List.replicate_zero, List.cons_append, List.nil_append, z3]
        rfl
      refine seq_nx hlp ?_
      generalize bst hs w st = B at b0 b1 b2 hmx hpc
      generalize pcA hs w st = Q at hpc
      rw [List.map_append]
      simp only [ap_var, ap_c, ap_m1, ap_m2, ap_m3, ap_part, ap_nopart, ap_if, ap_isN, ap_notN, ap_list, ap_tup, ap_nil, ap_cons, ap_cb, ap_m1m, ap_chain, ap_isi, ap_mB, ap_asB, ap_and, ap_or, ap_not, ap_yes, ap_call, ap_lc, ap_noX, ap_iseq, ap_iown, ap_seq, th_nx, th_rt, th_exc, ap_skip, ap_set, ap_asg, ap_aug, ap_lm, ap_put, ap_oif, ap_ret, ap_drop, ap_raise, ap_gN, ap_gT, ap_gsN, ap_gsC, ap_app, Res.bind_ok, Res.bind_exc, Res.of_some, exOut_ok, exOut_exc, wipeE, Option.bind_some, List.length_cons, List.length_nil, List.getElem?_cons_zero, List.getElem?_cons_succ, List.set_cons_zero, List.set_cons_succ, List.map_cons, List.map_nil, add_ii, sub_ii, cmpI, negD, modD, ap_lenL, ap_lenT, intD, int1, int2, walkD, if_true, if_false, decide_eq_true_eq, Bool.false_eq_true, reduceIte, Nat.reduceAdd, Nat.reduceSub, List.replicate_succ, List.replicate_zero, List.cons_append, List.nil_append, hix, b0, b1, b2, z2, z4, hpc, hzz, hmx]
      rw [show ((st + max 1 B.1 : Nat) : Int) = (st : Int) + ((max 1 B.1 : Nat) : Int) by omega]
    · have h' : ¬ (st : Int) < (w.length : Int) := by omega
      exact .inl (by simp only [ap_var, ap_c, ap_m1, ap_m2, ap_m3, ap_part, ap_nopart, ap_if, ap_isN, ap_notN, ap_list, ap_tup, ap_nil, ap_cons, ap_cb, ap_m1m, ap_chain, ap_isi, ap_mB, ap_asB, ap_and, ap_or, ap_not, ap_yes, ap_call, ap_lc, ap_noX, ap_iseq, ap_iown, ap_seq, th_nx, th_rt, th_exc, ap_skip, ap_set, ap_asg, ap_aug, ap_lm, ap_put, ap_oif, ap_ret, ap_drop, ap_raise, ap_gN, ap_gT, ap_gsN, ap_gsC, ap_app, Res.bind_ok, Res.bind_exc, Res.of_some, exOut_ok, exOut_exc, wipeE, Option.bind_some, List.length_cons, List.length_nil, List.getElem?_cons_zero, List.getElem?_cons_succ, List.set_cons_zero, List.set_cons_succ, List.map_cons, List.map_nil, add_ii, sub_ii, cmpI, negD, modD, ap_lenL, ap_lenT, intD, int1, int2, walkD, if_true, if_false, decide_eq_true_eq, Bool.false_eq_true, reduceIte, Nat.reduceAdd, Nat.reduceSub, List.replicate_succ, List.replicate_zero, List.cons_append, List.nil_append, lw, h', decide_false])
  · rintro n e ⟨pre, st, j4, j5, j6, j7, rfl, q1, q2, rfl⟩ hf
    by_cases h : st < w.length
    · have h' : (st : Int) < (w.length : Int) := by omega
      simp only [ap_var, ap_c, ap_m1, ap_m2, ap_m3, ap_part, ap_nopart, ap_if, ap_isN, ap_notN, ap_list, ap_tup, ap_nil, ap_cons, ap_cb, ap_m1m, ap_chain, ap_isi, ap_mB, ap_asB, ap_and, ap_or, ap_not, ap_yes, ap_call, ap_lc, ap_noX, ap_iseq, ap_iown, ap_seq, th_nx, th_rt, th_exc, ap_skip, ap_set, ap_asg, ap_aug, ap_lm, ap_put, ap_oif, ap_ret, ap_drop, ap_raise, ap_gN, ap_gT, ap_gsN, ap_gsC, ap_app, Res.bind_ok, Res.bind_exc, Res.of_some, exOut_ok, exOut_exc, wipeE, Option.bind_some, List.length_cons, List.length_nil, List.getElem?_cons_zero, List.getElem?_cons_succ, List.set_cons_zero, List.set_cons_succ, List.map_cons, List.map_nil, add_ii, sub_ii, cmpI, negD, modD, ap_lenL, ap_lenT, intD, int1, int2, walkD, if_true, if_false, decide_eq_true_eq, Bool.false_eq_true, reduceIte, Nat.reduceAdd, Nat.reduceSub, List.replicate_succ, List.replicate_zero, List.cons_append, List.nil_append, lw, h', decide_true] at hf
      cases hf
    · rw [grF_stop (by omega), List.append_nil] at q1
      refine ⟨_, ret_ok (var_ok rfl), by rw [q1]⟩
end K48

namespace K48
open PySem PySem.Spec L2 DL
theorem range_i {j : Int} {n : Nat} (h : small62 j) (hn : j.toNat = n) : rangeD [.int j] = .ok (rng 0 n) := by
  simp [rangeD, h, hn]
theorem cb_ok {g : List D → Option D} {ms : Env' → Res (List D)} {env : Env'} {l : List D} {d : D} (h : ms env = .ok l) (h2 : g l = some d) : mCB g ms env = .ok d := by
  rw [ap_cb, h, Res.bind_ok, h2]; rfl
theorem cons_ok {m : Env' → Res D} {ms : Env' → Res (List D)} {env : Env'} {d : D} {l : List D} (h : m env = .ok d) (h2 : ms env = .ok l) : aCons m ms env = .ok (d :: l) := by
  rw [ap_cons, h, Res.bind_ok, h2]; rfl
theorem tup_ok {ms : Env' → Res (List D)} {env : Env'} {l : List D} (h : ms env = .ok l) (hz : l.length ≤ 16777216) : mTup ms env = .ok (.tuple l) := by
  rw [ap_tup, h, Res.bind_ok, if_pos (sz_ge hz)]
/-- a comprehension over a range with a test -/
theorem lc_rngf {mi : Env' → Res (List D)} {v : Nat} {nc : Env' → Res Bool} {m : Env' → Res D} {vs : List Nat} {env : Env'} {n : Nat} (q : Nat → Bool) (f : Nat → D) (hi : mi env = .ok (rng 0 n)) (hz : n ≤ 1000000)
    (h : ∀ k, k < n → nc ((wipeE env vs).set v (some (.int (k : Nat)))) = .ok (q k) ∧ (q k = true → m ((wipeE env vs).set v (some (.int (k : Nat)))) = .ok (f k))) : mLc mi (gN v) nc m vs env = .ok (.list (((List.range n).filter q).map f)) := by
  let p : D → Bool := fun d => match d with | .int i => q i.toNat | _ => false
  have h1 := lc_map (v := v) (m := m) (nc := nc) (env := wipeE env vs) p (onI 0 f) (ds := rng 0 n) (by
    intro d hd
    obtain ⟨k, hk, rfl⟩ := rng_mem hd
    rw [Int.zero_add]
    refine ⟨by rw [(h k hk).1]; rfl, fun hp => ?_⟩
    rw [(h k hk).2 hp]
    show Res.ok (f k) = Res.ok (f ((k : Int) - 0).toNat)
    rw [show ((k : Int) - 0).toNat = k by omega])
  have e : (((rng 0 n).filter p).map (onI 0 f)) = ((List.range n).filter q).map f := by
    unfold rng
    rw [List.filter_map, List.map_map]
    have e1 : (p ∘ fun (i : Nat) => PyData.int (0 + (i : Int))) = q := funext fun k => by
      show q (0 + (k : Int)).toNat = q k
      congr 1
      omega
    rw [e1]
    refine List.map_congr_left fun k _ => ?_
    show f (0 + (k : Int) - 0).toNat = f k
    congr 1
    omega
  have hl : (((List.range n).filter q).map f).length ≤ n := by
    rw [List.length_map]
    have := List.length_filter_le q (List.range n)
    rw [List.length_range] at this
    exact this
  rw [ap_lc, hi, Res.bind_ok, h1, ap_noX, Res.bind_ok, e, if_pos (sz_ge (by omega))]
/-! ### stands in the house -/
def inb (hs : Ho) (u : List Nat) : Bool := hs.any fun p => inS (txS u) (txS p.2)
theorem inb_iff (hs : Ho) (u : List Nat) : inb hs u = true ↔ InH hs u := by
  unfold inb InH
  rw [List.any_eq_true]
  constructor
  · rintro ⟨p, hp, h⟩; exact ⟨p, hp, (ins_iff _ _).mp h⟩
  · rintro ⟨p, hp, h⟩; exact ⟨p, hp, (ins_iff _ _).mpr h⟩
theorem isst_loop (u : List Nat) (H : D) : ∀ (l : Ho) (j2 j3 : Option D), (inb l u = true → loop (gT' 2 (gsC (gN 2) (gsC (gN 3) gsN))) (oSeq (oIf (mB (m2 inD (mVar 1) (mVar 3))) (oRet (mC (.bool true))) oSkip) oSkip) (l.map enD) [some H, some (.str (txS u)), j2, j3] = .rt (.bool true)) ∧
    (inb l u = false → ∃ k2 k3, loop (gT' 2 (gsC (gN 2) (gsC (gN 3) gsN))) (oSeq (oIf (mB (m2 inD (mVar 1) (mVar 3))) (oRet (mC (.bool true))) oSkip) oSkip) (l.map enD) [some H, some (.str (txS u)), j2, j3] = .nx [some H, some (.str (txS u)), k2, k3])
  | [], j2, j3 => ⟨fun h => (by cases h), fun _ => ⟨_, _, rfl⟩⟩
  | p :: l, j2, j3 => by
    have hb : (oSeq (oIf (mB (m2 inD (mVar 1) (mVar 3))) (oRet (mC (.bool true))) oSkip) oSkip) [some H, some (.str (txS u)), some (.int p.1), some (.str (txS p.2))] = if inS (txS u) (txS p.2) = true then .rt (.bool true) else .nx [some H, some (.str (txS u)), some (.int p.1), some (.str (txS p.2))] := by
      have hi : inD (.str (txS u)) (.str (txS p.2)) = some (.bool (inS (txS u) (txS p.2))) := rfl
      generalize inS (txS u) (txS p.2) = t at hi
      cases t with
      | true => simp only [ap_var, ap_c, ap_m1, ap_m2, ap_m3, ap_part, ap_nopart, ap_if, ap_isN, ap_notN, ap_list, ap_tup, ap_nil, ap_cons, ap_cb, ap_m1m, ap_chain, ap_isi, ap_mB, ap_asB, ap_and, ap_or, ap_not, ap_yes, ap_call, ap_lc, ap_noX, ap_iseq, ap_iown, ap_seq, th_nx, th_rt, th_exc, ap_skip, ap_set, ap_asg, ap_aug, ap_lm, ap_put, ap_oif, ap_ret, ap_drop, ap_raise, ap_gN, ap_gT, ap_gsN, ap_gsC, ap_app, Res.bind_ok, Res.bind_exc, Res.of_some, exOut_ok, exOut_exc, wipeE, Option.bind_some, List.length_cons, List.length_nil, List.getElem?_cons_zero, List.getElem?_cons_succ, List.set_cons_zero, List.set_cons_succ, List.map_cons, List.map_nil, add_ii, sub_ii, cmpI, negD, modD, ap_lenL, ap_lenT, intD, int1, int2, walkD, if_true, if_false, decide_eq_true_eq, Bool.false_eq_true, reduceIte, Nat.reduceAdd, Nat.reduceSub, List.replicate_succ, List.replicate_zero, List.cons_append, List.nil_append, hi]
      | false => simp only [ap_var, ap_c, ap_m1, ap_m2, ap_m3, ap_part, ap_nopart, ap_if, ap_isN, ap_notN, ap_list, ap_tup, ap_nil, ap_cons, ap_cb, ap_m1m, ap_chain, ap_isi, ap_mB, ap_asB, ap_and, ap_or, ap_not, ap_yes, ap_call, ap_lc, ap_noX, ap_iseq, ap_iown, ap_seq, th_nx, th_rt, th_exc, ap_skip, ap_set, ap_asg, ap_aug, ap_lm, ap_put, ap_oif, ap_ret, ap_drop, ap_raise, ap_gN, ap_gT, ap_gsN, ap_gsC, ap_app, Res.bind_ok, Res.bind_exc, Res.of_some, exOut_ok, exOut_exc, wipeE, Option.bind_some, List.length_cons, List.length_nil, List.getElem?_cons_zero, List.getElem?_cons_succ, List.set_cons_zero, List.set_cons_succ, List.map_cons, List.map_nil, add_ii, sub_ii, cmpI, negD, modD, ap_lenL, ap_lenT, intD, int1, int2, walkD, if_true, if_false, decide_eq_true_eq, Bool.false_eq_true, reduceIte, Nat.reduceAdd, Nat.reduceSub, List.replicate_succ, List.replicate_zero, List.cons_append, List.nil_append, hi]
    have hstep : loop (gT' 2 (gsC (gN 2) (gsC (gN 3) gsN))) (oSeq (oIf (mB (m2 inD (mVar 1) (mVar 3))) (oRet (mC (.bool true))) oSkip) oSkip) ((p :: l).map enD) [some H, some (.str (txS u)), j2, j3] = match (oSeq (oIf (mB (m2 inD (mVar 1) (mVar 3))) (oRet (mC (.bool true))) oSkip) oSkip) [some H, some (.str (txS u)), some (.int p.1), some (.str (txS p.2))] with
      | .nx e2 => loop (gT' 2 (gsC (gN 2) (gsC (gN 3) gsN))) (oSeq (oIf (mB (m2 inD (mVar 1) (mVar 3))) (oRet (mC (.bool true))) oSkip) oSkip) (l.map enD) e2
      | .ct e2 => loop (gT' 2 (gsC (gN 2) (gsC (gN 3) gsN))) (oSeq (oIf (mB (m2 inD (mVar 1) (mVar 3))) (oRet (mC (.bool true))) oSkip) oSkip) (l.map enD) e2
      | .bk e2 => .nx e2
      | x => x := rfl
    obtain ⟨h1, h2⟩ := isst_loop u H l (some (.int p.1)) (some (.str (txS p.2)))
    have ha : inb (p :: l) u = (inS (txS u) (txS p.2) || inb l u) := rfl
    rw [hstep, hb, ha]
    cases inS (txS u) (txS p.2) with
    | true =>
      rw [if_pos rfl]
      exact ⟨fun _ => rfl, fun h => (by cases h)⟩
    | false =>
      rw [if_neg (by decide), Bool.false_or]
      exact ⟨h1, h2⟩
theorem isst_ok (hs : Ho) (u : List Nat) : m__law_is_stretch [hD hs, .str (txS u)] = .ok (.bool (inb hs u)) := by
  refine run_rt ?_
  show o__law_is_stretch [some (hD hs), some (.str (txS u)), none, none] = _
  unfold o__law_is_stretch
  obtain ⟨h1, h2⟩ := isst_loop u (hD hs) hs none none
  rw [ap_seq, for_ok (ds := hs.map enD) rfl rfl]
  cases hb : inb hs u with
  | true => rw [h1 hb]; rfl
  | false =>
    obtain ⟨k2, k3, e⟩ := h2 hb
    rw [e]
    rfl
/-! ### the least number of pieces -/
def Gn (hs : Ho) (w : List Nat) (i : Nat) : Nat := gc (nxt hs w) w.length 0 i
theorem gn_le {hs : Ho} {w : List Nat} {s i : Nat} (h1 : s < i) (h2 : i ≤ w.length) (h3 : i ≤ nxt hs w s) : Gn hs w i ≤ Gn hs w s + 1 := by
  have a := gc_sub (nxt_gt hs w) (nxt_mono hs w) w.length w.length 0 s i (by omega) (by omega) (by omega) (by omega)
  have b := gc_step (nxt_gt hs w) (f := w.length) (s := s) (i := i) (by omega) h1
  rw [gc_zero h3] at b
  unfold Gn
  omega
theorem gn_last {hs : Ho} {w : List Nat} {i : Nat} (h1 : 0 < i) (h2 : i ≤ w.length) : ∃ s, s < i ∧ i ≤ nxt hs w s ∧ Gn hs w s + 1 = Gn hs w i := by
  obtain ⟨s, _, q2, q3, q4⟩ := gc_last (nxt_gt hs w) w.length w.length 0 i (by omega) (by omega) h1
  exact ⟨s, q2, q3, q4⟩
abbrev gnl (hs : Ho) (w : List Nat) (m : Nat) : D := .list ((List.range (m + 1)).map fun i : Nat => .int (Gn hs w i))
theorem gnl_get (hs : Ho) (w : List Nat) {m k : Nat} (h : k < m + 1) : ((List.range (m + 1)).map fun i : Nat => PyData.int (Gn hs w i))[k]? = some (.int (Gn hs w k)) := by
  rw [List.getElem?_map, List.getElem?_range h]; rfl
theorem ints_map (f : Nat → Int) : ∀ ks : List Nat, intsOf (ks.map fun k => PyData.int (f k)) = some (ks.map f)
  | [] => rfl
  | k :: ks => by
    show (intsOf (ks.map fun k => PyData.int (f k))).map _ = _
    rw [ints_map f ks]
    rfl
theorem least_ok (hs : Ho) {w : List Nat} (hw : w.length ≤ 1000) : m__law_least [hD hs, .str (txS w)] = .ok (.int (Gn hs w w.length : Nat)) := by
  suffices H : ∃ x, o__law_least [some (hD hs), some (.str (txS w)), none, none, none, none] = x ∧ x = .rt (.int (Gn hs w w.length : Nat)) by
    obtain ⟨x, h1, rfl⟩ := H
    exact run_rt h1
  have z1 : 1 ≤ sizeLine := sz_ge (by omega)
  have zw : w.length ≤ sizeLine := sz_ge (by omega)
  have lw := ap_lenS zw
  have g0 : Gn hs w 0 = 0 := gc_zero (Nat.le_refl 0)
  refine seq_ex (e := [some (hD hs), some (.str (txS w)), some (gnl hs w 0), none, none, none]) ?_ ?_
  · simp only [ap_var, ap_c, ap_m1, ap_m2, ap_m3, ap_part, ap_nopart, ap_if, ap_isN, ap_notN, ap_list, ap_tup, ap_nil, ap_cons, ap_cb, ap_m1m, ap_chain, ap_isi, ap_mB, ap_asB, ap_and, ap_or, ap_not, ap_yes, ap_call, ap_lc, ap_noX, ap_iseq, ap_iown, ap_seq, th_nx, th_rt, th_exc, ap_skip, ap_set, ap_asg, ap_aug, ap_lm, ap_put, ap_oif, ap_ret, ap_drop, ap_raise, ap_gN, ap_gT, ap_gsN, ap_gsC, ap_app, Res.bind_ok, Res.bind_exc, Res.of_some, exOut_ok, exOut_exc, wipeE, Option.bind_some, List.length_cons, List.length_nil, List.getElem?_cons_zero, List.getElem?_cons_succ, List.set_cons_zero, List.set_cons_succ, List.map_cons, List.map_nil, add_ii, sub_ii, cmpI, negD, modD, ap_lenL, ap_lenT, intD, int1, int2, walkD, if_true, if_false, decide_eq_true_eq, Bool.false_eq_true, reduceIte, Nat.reduceAdd, Nat.reduceSub, List.replicate_succ, List.replicate_zero, List.cons_append, List.nil_append, z1]
    show _ = Out.nx [_, _, some (.list [.int (Gn hs w 0 : Nat)]), _, _, _]
    rw [g0]
    rfl
  refine seq_for (fun m e => ∃ j3 j4 j5, e = [some (hD hs), some (.str (txS w)), some (gnl hs w m), j3, j4, j5]) (rng 1 w.length) ?_ ⟨_, _, _, rfl⟩ ?_ ?_
  · refine irangeG_ok (j := (w.length : Int) + 1) ?_ (by omega)
    simp only [ap_var, ap_c, ap_m1, ap_m2, ap_m3, ap_part, ap_nopart, ap_if, ap_isN, ap_notN, ap_list, ap_tup, ap_nil, ap_cons, ap_cb, ap_m1m, ap_chain, ap_isi, ap_mB, ap_asB, ap_and, ap_or, ap_not, ap_yes, ap_call, ap_lc, ap_noX, ap_iseq, ap_iown, ap_seq, th_nx, th_rt, th_exc, ap_skip, ap_set, ap_asg, ap_aug, ap_lm, ap_put, ap_oif, ap_ret, ap_drop, ap_raise, ap_gN, ap_gT, ap_gsN, ap_gsC, ap_app, Res.bind_ok, Res.bind_exc, Res.of_some, exOut_ok, exOut_exc, wipeE, Option.bind_some, List.length_cons, List.length_nil, List.getElem?_cons_zero, List.getElem?_cons_succ, List.set_cons_zero, List.set_cons_succ, List.map_cons, List.map_nil, add_ii, sub_ii, cmpI, negD, modD, ap_lenL, ap_lenT, intD, int1, int2, walkD, if_true, if_false, decide_eq_true_eq, Bool.false_eq_true, reduceIte, Nat.reduceAdd, Nat.reduceSub, List.replicate_succ, List.replicate_zero, List.cons_append, List.nil_append, lw]
  · rintro m d e hd ⟨j3, j4, j5, rfl⟩
    rw [rng_get] at hd
    split at hd <;> cases hd
    rename_i hm
    have hst : (1 : Int) + (m : Int) = ((m + 1 : Nat) : Int) := by omega
    rw [hst]
    let q : Nat → Bool := fun k => inb hs ((w.drop k).take (m + 1 - k))
    have hlc := lc_rngf (mi := iRange (aCons (mVar 3) aNil)) (v := 5) (nc := mB (mCall m__law_is_stretch (aCons (mVar 0) (aCons (m3 slD (mVar 1) (mPart (mVar 5)) (mPart (mVar 3))) aNil)))) (m := m2 addD (m2 ixD (mVar 2) (mVar 5)) (mC (.int 1))) (vs := [5]) (env := [some (hD hs), some (.str (txS w)), some (gnl hs w m), some (.int ((m + 1 : Nat) : Int)), j4, j5]) (n := m + 1) q (fun k => .int ((Gn hs w k : Int) + 1))
      (irange_ok (l := [.int ((m + 1 : Nat) : Int)]) (by simp only [ap_var, ap_c, ap_m1, ap_m2, ap_m3, ap_part, ap_nopart, ap_if, ap_isN, ap_notN, ap_list, ap_tup, ap_nil, ap_cons, ap_cb, ap_m1m, ap_chain, ap_isi, ap_mB, ap_asB, ap_and, ap_or, ap_not, ap_yes, ap_call, ap_lc, ap_noX, ap_iseq, ap_iown, ap_seq, th_nx, th_rt, th_exc, ap_skip, ap_set, ap_asg, ap_aug, ap_lm, ap_put, ap_oif, ap_ret, ap_drop, ap_raise, ap_gN, ap_gT, ap_gsN, ap_gsC, ap_app, Res.bind_ok, Res.bind_exc, Res.of_some, exOut_ok, exOut_exc, wipeE, Option.bind_some, List.length_cons, List.length_nil, List.getElem?_cons_zero, List.getElem?_cons_succ, List.set_cons_zero, List.set_cons_succ, List.map_cons, List.map_nil, add_ii, sub_ii, cmpI, negD, modD, ap_lenL, ap_lenT, intD, int1, int2, walkD, if_true, if_false, decide_eq_true_eq, Bool.false_eq_true, reduceIte, Nat.reduceAdd, Nat.reduceSub, List.replicate_succ, List.replicate_zero, List.cons_append, List.nil_append]) (range1 (by omega))) (by omega) (fun k hk => by
        have hs2 := sl_both (t := w) (a := k) (b := m + 1) zw (by omega)
        have hi := isst_ok hs ((w.drop k).take (m + 1 - k))
        have e1 := m3_ok (g := slD) (ma := mVar 1) (env := (wipeE [some (hD hs), some (.str (txS w)), some (gnl hs w m), some (.int ((m + 1 : Nat) : Int)), j4, j5] [5]).set 5 (some (.int (k : Nat)))) (var_ok rfl) (part_ok (m := mVar 5) (var_ok rfl)) (part_ok (m := mVar 3) (var_ok rfl)) hs2
        have e2 := call_ok (mf := m__law_is_stretch) (cons_ok (m := mVar 0) (var_ok rfl) (cons_ok e1 ap_nil)) hi
        refine ⟨b_ok e2, fun _ => ?_⟩
        have hix : ixD (gnl hs w m) (.int (k : Int)) = some (.int (Gn hs w k)) := ix_nat (gnl_get hs w hk)
        have e3 := m2_ok (f := ixD) (ma := mVar 2) (mb := mVar 5) (env := (wipeE [some (hD hs), some (.str (txS w)), some (gnl hs w m), some (.int ((m + 1 : Nat) : Int)), j4, j5] [5]).set 5 (some (.int (k : Nat)))) (var_ok rfl) (var_ok rfl) hix
        exact m2_ok (f := addD) (mb := mC (.int 1)) e3 ap_c add_ii)
    have hix : ixD (gnl hs w m) (.int (((m + 1 : Nat) : Int) - 1)) = some (.int (Gn hs w m)) := ix_int (n := m) (by omega) (gnl_get hs w (by omega))
    have hfl : ((List.range (m + 1)).filter q).length ≤ m + 1 := by
      have := List.length_filter_le q (List.range (m + 1))
      rw [List.length_range] at this
      exact this
    have hmin : minLD [.list (PyData.int ((Gn hs w m : Int) + 1) :: ((List.range (m + 1)).filter q).map fun k => .int ((Gn hs w k : Int) + 1))] = some (.int (Gn hs w (m + 1) : Nat)) := by
      have e1 : intsOf (PyData.int ((Gn hs w m : Int) + 1) :: ((List.range (m + 1)).filter q).map fun k => .int ((Gn hs w k : Int) + 1)) = some (((Gn hs w m : Int) + 1) :: ((List.range (m + 1)).filter q).map fun k => (Gn hs w k : Int) + 1) := by
        show (intsOf (((List.range (m + 1)).filter q).map fun k => PyData.int ((Gn hs w k : Int) + 1))).map _ = _
        rw [ints_map (fun k => (Gn hs w k : Int) + 1)]
        rfl
      obtain ⟨f1, f2⟩ := fold_min (((List.range (m + 1)).filter q).map fun k => (Gn hs w k : Int) + 1) ((Gn hs w m : Int) + 1)
      have lo : ∀ y ∈ ((Gn hs w m : Int) + 1) :: ((List.range (m + 1)).filter q).map fun k => (Gn hs w k : Int) + 1, (Gn hs w (m + 1) : Int) ≤ y := by
        intro y hy
        rcases List.mem_cons.mp hy with rfl | hy
        · have := gn_le (hs := hs) (w := w) (s := m) (i := m + 1) (by omega) (by omega) (by have := nxt_gt hs w m; omega)
          omega
        · obtain ⟨k, hk, rfl⟩ := List.mem_map.mp hy
          rw [List.mem_filter, List.mem_range] at hk
          have h2 := (inh_iff (hs := hs) (w := w) (s := k) (i := m + 1) hk.1 (by omega)).mp ((inb_iff _ _).mp hk.2)
          have := gn_le (hs := hs) (w := w) (s := k) (i := m + 1) hk.1 (by omega) (by unfold nxt; omega)
          omega
      have hi : (Gn hs w (m + 1) : Int) ∈ ((Gn hs w m : Int) + 1) :: ((List.range (m + 1)).filter q).map fun k => (Gn hs w k : Int) + 1 := by
        obtain ⟨s, s1, s2, s3⟩ := gn_last (hs := hs) (w := w) (i := m + 1) (by omega) (by omega)
        by_cases c : s = m
        · subst c
          rw [← s3]
          simp
        · refine List.mem_cons_of_mem _ (List.mem_map.mpr ⟨s, ?_, by rw [← s3]; omega⟩)
          rw [List.mem_filter, List.mem_range]
          refine ⟨s1, (inb_iff _ _).mpr ((inh_iff s1 (by omega)).mpr ?_)⟩
          unfold nxt at s2
          omega
      show (match intsOf (PyData.int ((Gn hs w m : Int) + 1) :: ((List.range (m + 1)).filter q).map fun k => .int ((Gn hs w k : Int) + 1)) with | some (n :: r) => some (PyData.int (r.foldl min n)) | _ => none) = _
      rw [e1]
      show some (PyData.int _) = _
      rw [Int.le_antisymm (f2 _ hi) (lo _ f1)]
    refine ⟨_, [some (hD hs), some (.str (txS w)), some (gnl hs w (m + 1)), some (.int ((m + 1 : Nat) : Int)), some (.list (PyData.int ((Gn hs w m : Int) + 1) :: ((List.range (m + 1)).filter q).map fun k => .int ((Gn hs w k : Int) + 1))), j5], rfl, ?_, _, _, _, rfl⟩
    refine seq_nx (e := [some (hD hs), some (.str (txS w)), some (gnl hs w m), some (.int ((m + 1 : Nat) : Int)), some (.list (PyData.int ((Gn hs w m : Int) + 1) :: ((List.range (m + 1)).filter q).map fun k => .int ((Gn hs w k : Int) + 1))), j5]) ?_ ?_
    · refine (set_ok ?_).trans rfl
      have e1 : (mList (aCons (m2 addD (m2 ixD (mVar 2) (m2 subD (mVar 3) (mC (.int 1)))) (mC (.int 1))) aNil)) [some (hD hs), some (.str (txS w)), some (gnl hs w m), some (.int ((m + 1 : Nat) : Int)), j4, j5] = .ok (.list [.int ((Gn hs w m : Int) + 1)]) := by
        simp only [ap_var, ap_c, ap_m1, ap_m2, ap_m3, ap_part, ap_nopart, ap_if, ap_isN, ap_notN, ap_list, ap_tup, ap_nil, ap_cons, ap_cb, ap_m1m, ap_chain, ap_isi, ap_mB, ap_asB, ap_and, ap_or, ap_not, ap_yes, ap_call, ap_lc, ap_noX, ap_iseq, ap_iown, ap_seq, th_nx, th_rt, th_exc, ap_skip, ap_set, ap_asg, ap_aug, ap_lm, ap_put, ap_oif, ap_ret, ap_drop, ap_raise, ap_gN, ap_gT, ap_gsN, ap_gsC, ap_app, Res.bind_ok, Res.bind_exc, Res.of_some, exOut_ok, exOut_exc, wipeE, Option.bind_some, List.length_cons, List.length_nil, List.getElem?_cons_zero, List.getElem?_cons_succ, List.set_cons_zero, List.set_cons_succ, List.map_cons, List.map_nil, add_ii, sub_ii, cmpI, negD, modD, ap_lenL, ap_lenT, intD, int1, int2, walkD, if_true, if_false, decide_eq_true_eq, Bool.false_eq_true, reduceIte, Nat.reduceAdd, Nat.reduceSub, List.replicate_succ, List.replicate_zero, List.cons_append, List.nil_append, hix, z1]
      exact m2_ok (f := addD) e1 hlc (addL (sz_ge (by simp; omega)))
    have hzz : ((List.range (m + 1)).map fun i : Nat => PyData.int (Gn hs w i)).length < sizeLine := sz_gt (by simp; omega)
    have hgs : gnl hs w (m + 1) = .list (((List.range (m + 1)).map fun i : Nat => PyData.int (Gn hs w i)) ++ [.int (Gn hs w (m + 1) : Nat)]) := by
      show PyData.list ((List.range ((m + 1) + 1)).map _) = _
      rw [List.range_succ (n := m + 1), List.map_append]
      rfl
    rw [hgs]
    generalize ((List.range (m + 1)).filter q).map (fun k => PyData.int ((Gn hs w k : Int) + 1)) = W at hmin
    simp only [ap_var, ap_c, ap_m1, ap_m2, ap_m3, ap_part, ap_nopart, ap_if, ap_isN, ap_notN, ap_list, ap_tup, ap_nil, ap_cons, ap_cb, ap_m1m, ap_chain, ap_isi, ap_mB, ap_asB, ap_and, ap_or, ap_not, ap_yes, ap_call, ap_lc, ap_noX, ap_iseq, ap_iown, ap_seq, th_nx, th_rt, th_exc, ap_skip, ap_set, ap_asg, ap_aug, ap_lm, ap_put, ap_oif, ap_ret, ap_drop, ap_raise, ap_gN, ap_gT, ap_gsN, ap_gsC, ap_app, Res.bind_ok, Res.bind_exc, Res.of_some, exOut_ok, exOut_exc, wipeE, Option.bind_some, List.length_cons, List.length_nil, List.getElem?_cons_zero, List.getElem?_cons_succ, List.set_cons_zero, List.set_cons_succ, List.map_cons, List.map_nil, add_ii, sub_ii, cmpI, negD, modD, ap_lenL, ap_lenT, intD, int1, int2, walkD, if_true, if_false, decide_eq_true_eq, Bool.false_eq_true, reduceIte, Nat.reduceAdd, Nat.reduceSub, List.replicate_succ, List.replicate_zero, List.cons_append, List.nil_append, hmin, hzz]
  · rintro e ⟨j3, j4, j5, rfl⟩
    rw [rng_len]
    refine ⟨_, ?_, rfl⟩
    have hix : ixD (gnl hs w w.length) (.int (w.length : Int)) = some (.int (Gn hs w w.length)) := ix_nat (gnl_get hs w (by omega))
    have e1 : (mCB lenD (aCons (mVar 1) aNil)) [some (hD hs), some (.str (txS w)), some (gnl hs w w.length), j3, j4, j5] = .ok (.int w.length) := by
      simp only [ap_cb, ap_cons, ap_nil, ap_var, Res.bind_ok, Res.of_some, List.getElem?_cons_zero, List.getElem?_cons_succ, lw]
    exact ret_ok (m2_ok (f := ixD) (ma := mVar 2) (var_ok rfl) e1 hix)
end K48

namespace K48
open PySem PySem.Spec L2 DL
/-! ### loops that may say False -/
def runS {α σ : Type} (stp : σ → α → Option σ) : σ → List α → Option σ
  | s, [] => some s
  | s, a :: l => (stp s a).bind fun s' => runS stp s' l
theorem loop_st {α σ : Type} {stp : σ → α → Option σ} {fD : α → D} {g : D → Env' → Option Env'} {o : Env' → Out} {R : Nat → σ → Env' → Prop} (L : List α)
    (h : ∀ i s a env, L[i]? = some a → R i s env → ∃ e1, g (fD a) env = some e1 ∧ ((stp s a = none ∧ o e1 = .rt (.bool false)) ∨ ∃ s' env', stp s a = some s' ∧ o e1 = .nx env' ∧ R (i + 1) s' env')) :
    ∀ (l : List α) (i : Nat) (s : σ) (env : Env'), L.drop i = l → R i s env → (runS stp s l = none ∧ loop g o (l.map fD) env = .rt (.bool false)) ∨ ∃ s' env', runS stp s l = some s' ∧ loop g o (l.map fD) env = .nx env' ∧ R (i + l.length) s' env'
  | [], i, s, env, _, r => .inr ⟨s, env, rfl, rfl, r⟩
  | a :: l, i, s, env, hd, r => by
    have hi : L[i]? = some a := by
      have := congrArg (fun z => z[0]?) hd
      simpa [List.getElem?_drop] using this
    have hd2 : L.drop (i + 1) = l := by
      have := congrArg List.tail hd
      simpa [List.tail_drop] using this
    obtain ⟨e1, h1, h2⟩ := h i s a env hi r
    have hl : loop g o ((a :: l).map fD) env = match o e1 with
      | .nx e2 => loop g o (l.map fD) e2
      | .ct e2 => loop g o (l.map fD) e2
      | .bk e2 => .nx e2
      | x => x := by
      show (match g (fD a) env with | none => _ | some e1 => _) = _
      rw [h1]
      try rfl
    rw [hl]
    rcases h2 with ⟨q1, q2⟩ | ⟨s', env', q1, q2, q3⟩
    · rw [q2]
      exact .inl ⟨by show (stp s a).bind _ = _; rw [q1]; rfl, rfl⟩
    · rw [q2]
      have e : runS stp s (a :: l) = runS stp s' l := by show (stp s a).bind _ = _; rw [q1]; rfl
      rw [e]
      rcases loop_st L h l (i + 1) s' env' hd2 q3 with z | ⟨s2, e2, z1, z2, z3⟩
      · exact .inl z
      · exact .inr ⟨s2, e2, z1, z2, by rw [List.length_cons, show i + (l.length + 1) = i + 1 + l.length by omega]; exact z3⟩
theorem for_st {α σ : Type} {stp : σ → α → Option σ} {fD : α → D} {mi : Env' → Res (List D)} {g : D → Env' → Option Env'} {o o2 : Env' → Out} {R : Nat → σ → Env' → Prop} (L : List α) (s0 : σ) {env : Env'} (hi : mi env = .ok (L.map fD)) (h0 : R 0 s0 env)
    (h : ∀ i s a env, L[i]? = some a → R i s env → ∃ e1, g (fD a) env = some e1 ∧ ((stp s a = none ∧ o e1 = .rt (.bool false)) ∨ ∃ s' env', stp s a = some s' ∧ o e1 = .nx env' ∧ R (i + 1) s' env')) :
    (runS stp s0 L = none ∧ oSeq (oFor mi g o) o2 env = .rt (.bool false)) ∨ ∃ s' env', runS stp s0 L = some s' ∧ oSeq (oFor mi g o) o2 env = o2 env' ∧ R L.length s' env' := by
  have hf : oFor mi g o env = loop g o (L.map fD) env := for_ok hi rfl
  rcases loop_st L h L 0 s0 env rfl h0 with ⟨z1, z2⟩ | ⟨s', e', z1, z2, z3⟩
  · exact .inl ⟨z1, by rw [ap_seq, hf, z2]; rfl⟩
  · exact .inr ⟨s', e', z1, by rw [ap_seq, hf, z2]; rfl, by simpa using z3⟩
theorem for_dec {α σ : Type} {stp : σ → α → Option σ} {fD : α → D} {mi : Env' → Res (List D)} {g : D → Env' → Option Env'} {o o2 : Env' → Out} {R : Nat → σ → Env' → Prop} {r : Out} (L : List α) (s0 : σ) {env : Env'} (hi : mi env = .ok (L.map fD)) (h0 : R 0 s0 env)
    (h : ∀ i s a env, L[i]? = some a → R i s env → ∃ e1, g (fD a) env = some e1 ∧ ((stp s a = none ∧ o e1 = .rt (.bool false)) ∨ ∃ s' env', stp s a = some s' ∧ o e1 = .nx env' ∧ R (i + 1) s' env'))
    (hn : runS stp s0 L = none → .rt (.bool false) = r) (hy : ∀ s' env', runS stp s0 L = some s' → R L.length s' env' → o2 env' = r) : oSeq (oFor mi g o) o2 env = r := by
  rcases for_st (o2 := o2) L s0 hi h0 h with ⟨z1, z2⟩ | ⟨s', env', z1, z2, z3⟩
  · rw [z2]; exact hn z1
  · rw [z2]; exact hy s' env' z1 z3
/-- tests without a state -/
theorem runS_all {α : Type} (bad : α → Bool) : ∀ L : List α, runS (fun (_ : Unit) a => if bad a = true then none else some ()) () L = if L.any bad = true then none else some ()
  | [] => rfl
  | a :: L => by
    show (if bad a = true then none else some ()).bind _ = _
    rw [List.any_cons]
    cases hb : bad a with
    | true => rfl
    | false =>
      rw [if_neg (by decide), Option.bind_some, runS_all bad L, Bool.false_or]
/-! ### lists and [] -/
theorem neD_nil {L : List D} (h : SeqAt.shaped (.list L) = true) : neD (.list L) (.list []) = some (.bool (!L.isEmpty)) := by
  have h0 : SeqAt.shaped (.list []) = true := by decide
  show ((if (SeqAt.shaped (.list L) && SeqAt.shaped (.list [])) = true then some (PyData.eqv (.list L) (.list [])) else none).map fun b => PyData.bool !b) = _
  rw [h, h0]
  cases L with
  | nil => simp [PyData.eqv, PyData.eqvAll]
  | cons x xs => simp [PyData.eqv, PyData.eqvAll]
theorem eqD_nil {L : List D} (h : SeqAt.shaped (.list L) = true) : eqD (.list L) (.list []) = some (.bool L.isEmpty) := by
  have h0 : SeqAt.shaped (.list []) = true := by decide
  show ((if (SeqAt.shaped (.list L) && SeqAt.shaped (.list [])) = true then some (PyData.eqv (.list L) (.list [])) else none).map PyData.bool) = _
  rw [h, h0]
  cases L with
  | nil => simp [PyData.eqv, PyData.eqvAll]
  | cons x xs => simp [PyData.eqv, PyData.eqvAll]
/-! ### windows in order -/
abbrev Wi := Int × Int
def wD (p : Wi) : D := .tuple [.int p.1, .int p.2]
def triD (p : Wi) : D := .tuple [.int 0, .int p.1, .int p.2]
def geP (p q : Wi) : Bool := !(decide (p.1 < q.1) || (decide (p.1 = q.1) && decide (p.2 < q.2)))
theorem lt_int (a b : Int) (xs ys : List D) : PyProof.Rows.lexLt PyProof.Rows.itemOrd (W.keyToksAll (.int a :: xs)) (W.keyToksAll (.int b :: ys)) = if a = b then PyProof.Rows.lexLt PyProof.Rows.itemOrd (W.keyToksAll xs) (W.keyToksAll ys) else decide (a < b) := by
  have al : W.alike (.int a) (.int b) = true := by simp [W.alike]
  by_cases h : a = b
  · rw [if_pos h]
    exact W.dataLt_all_yes al (by rw [int_eqv, decide_eq_true h])
  · rw [if_neg h, W.dataLt_all_no al (by rw [int_eqv, decide_eq_false h]), W.dataLt_int]
theorem lt_nil : PyProof.Rows.lexLt PyProof.Rows.itemOrd (W.keyToksAll []) (W.keyToksAll []) = false := by decide +kernel
theorem ge2 (p q : Wi) : geDD (wD p) (wD q) = some (.bool (geP p q)) := by
  have ho : ordOk (wD p) (wD q) = true := by simp [ordOk, wD, PyData.canLay0, PyData.canLayAll0, W.alike, W.alikeAll, isND, PyData.depth, PyData.depthAll]
  show (if ordOk (wD p) (wD q) = true then some (PyData.bool (!W.dataLt (wD p) (wD q))) else none) = _
  rw [if_pos ho]
  congr 2
  unfold geP wD
  rw [W.dataLt_tuple, lt_int, lt_int, lt_nil]
  by_cases h1 : p.1 = q.1
  · by_cases h2 : p.2 = q.2
    · simp [h1, h2]
    · simp [h1, h2]
  · simp [h1]
theorem ge3 (p q : Wi) : geDD (triD p) (triD q) = some (.bool (geP p q)) := by
  have ho : ordOk (triD p) (triD q) = true := by simp [ordOk, triD, PyData.canLay0, PyData.canLayAll0, W.alike, W.alikeAll, isND, PyData.depth, PyData.depthAll]
  show (if ordOk (triD p) (triD q) = true then some (PyData.bool (!W.dataLt (triD p) (triD q))) else none) = _
  rw [if_pos ho]
  congr 2
  unfold geP triD
  rw [W.dataLt_tuple, lt_int, if_pos rfl, lt_int, lt_int, lt_nil]
  by_cases h1 : p.1 = q.1
  · by_cases h2 : p.2 = q.2
    · simp [h1, h2]
    · simp [h1, h2]
  · simp [h1]
/-! ### the texts by their numbers -/
def look (hs : Ho) (n : Int) : Option (List Nat) := (hs.find? fun p => decide ((p.1 : Int) = n)).map (·.2)
def kvs (hs : Ho) : List (D × D) := hs.map fun p => (PyData.int p.1, .str (txS p.2))
theorem fold_put : ∀ (hs : Ho) (acc : List (D × D)), (∀ p ∈ hs, ∀ kv ∈ acc, keyD kv.1 ≠ some (.inl (p.1 : Int))) → hs.Pairwise (fun a b => a.1 < b.1) → (hs.map fun p => ((Sum.inl (p.1 : Int) : Key), PyData.str (txS p.2))).foldl (fun acc kv => putD acc kv.1 kv.2) acc = acc ++ kvs hs
  | [], acc, _, _ => by simp [kvs]
  | p :: hs, acc, h, hp => by
    rw [List.pairwise_cons] at hp
    have h1 : putD acc (.inl (p.1 : Int)) (.str (txS p.2)) = acc ++ [(.int p.1, .str (txS p.2))] := by
      unfold putD
      rw [if_neg]
      · rfl
      · rw [List.any_eq_true]
        rintro ⟨kv, hkv, z⟩
        exact h p (by simp) kv hkv (by simpa using z)
    rw [List.map_cons, List.foldl_cons, h1, fold_put hs _ ?_ hp.2]
    · simp [kvs]
    · intro q hq kv hkv
      rcases List.mem_append.mp hkv with hkv | hkv
      · exact h q (by simp [hq]) kv hkv
      · simp at hkv
        subst hkv
        intro z
        have := hp.1 q hq
        simp only [keyD] at z
        injection z with z
        injection z with z
        omega
theorem pairs_h : ∀ hs : Ho, pairsD (hs.map enD) = some (hs.map fun p => ((Sum.inl (p.1 : Int) : Key), PyData.str (txS p.2)))
  | [] => rfl
  | p :: hs => by
    show (keyD (.int p.1)).bind (fun k => (pairsD (hs.map enD)).map fun ps => (k, PyData.str (txS p.2)) :: ps) = _
    rw [pairs_h hs]
    rfl
theorem dict_h {hs : Ho} (h : hs.Pairwise fun a b => a.1 < b.1) : dictD [hD hs] = some (.dict (kvs hs)) := by
  show (pairsD (hs.map enD)).map (fun ps => PyData.dict (ps.foldl (fun acc kv => putD acc kv.1 kv.2) [])) = _
  rw [pairs_h hs, Option.map_some, fold_put hs [] (by simp) h]
  rfl
theorem val_h (n : Int) : ∀ hs : Ho, valD (kvs hs) (.inl n) = (look hs n).map fun t => .str (txS t)
  | [] => rfl
  | p :: hs => by
    have ih := val_h n hs
    unfold valD look kvs at ih ⊢
    rw [List.map_cons, List.find?_cons, List.find?_cons]
    by_cases h : (p.1 : Int) = n
    · have e : decide (keyD (PyData.int (p.1 : Int)) = some (.inl n)) = true := decide_eq_true (by simp [keyD, h])
      rw [e, decide_eq_true h]
      rfl
    · have e : decide (keyD (PyData.int (p.1 : Int)) = some (.inl n)) = false := decide_eq_false (by simp [keyD, h])
      rw [e, decide_eq_false h]
      exact ih
theorem plain_h (hs : Ho) : plainK (kvs hs) = true := by
  unfold plainK kvs
  rw [List.all_eq_true]
  intro kv hkv
  obtain ⟨p, _, rfl⟩ := List.mem_map.mp hkv
  rfl
theorem dix_h (hs : Ho) (n : Int) : dixD (.dict (kvs hs)) (.int n) = (look hs n).map fun t => .str (txS t) := by
  show (if plainK (kvs hs) = true then (keyD (.int n)).bind (valD (kvs hs)) else none) = _
  rw [if_pos (plain_h hs)]
  exact val_h n hs
theorem notin_h (hs : Ho) (n : Int) : notInKD (.int n) (.dict (kvs hs)) = some (.bool (look hs n).isNone) := by
  show ((if plainK (kvs hs) = true then (keyD (.int n)).map (fun k => (valD (kvs hs) k).isSome) else none).map fun b => PyData.bool !b) = _
  rw [if_pos (plain_h hs)]
  show some (PyData.bool !(valD (kvs hs) (.inl n)).isSome) = _
  rw [val_h]
  cases look hs n <;> rfl
end K48

namespace K48
open PySem PySem.Spec L2 DL
def pcT (hs : Ho) : Pc → Option (List Nat)
  | .l c => some [c]
  | .c n k s => (look hs n).bind fun t => if 1 ≤ s ∧ 0 ≤ k ∧ k + s ≤ (t.length : Int) then some ((t.drop k.toNat).take s.toNat) else none
theorem pcT_c (hs : Ho) (n k s : Int) : pcT hs (.c n k s) = (look hs n).bind fun t => if 1 ≤ s ∧ 0 ≤ k ∧ k + s ≤ (t.length : Int) then some ((t.drop k.toNat).take s.toNat) else none := rfl
theorem look_mem {hs : Ho} {n : Int} {t : List Nat} (h : look hs n = some t) : ∃ p ∈ hs, (p.1 : Int) = n ∧ p.2 = t := by
  unfold look at h
  cases e : hs.find? fun p => decide ((p.1 : Int) = n) with
  | none => rw [e] at h; cases h
  | some p =>
    rw [e] at h
    cases h
    exact ⟨p, List.mem_of_find?_eq_some e, by simpa using List.find?_some e, rfl⟩
theorem look_len {hs : Ho} (hb : HB hs) {n : Int} {t : List Nat} (h : look hs n = some t) : t.length ≤ 100 := by
  obtain ⟨p, hp, _, rfl⟩ := look_mem h
  exact hb.2.1 p hp
theorem pcT_len {hs : Ho} (hb : HB hs) {p : Pc} {t : List Nat} (h : pcT hs p = some t) : t.length ≤ 100 := by
  cases p with
  | l c => cases h; simp
  | c n k s =>
    rw [pcT_c] at h
    cases e : look hs n with
    | none => rw [e] at h; cases h
    | some u =>
      rw [e, Option.bind_some] at h
      split at h
      · cases h
        have := look_len hb e
        rw [List.length_take, List.length_drop]
        omega
      · cases h
def stp1 (hs : Ho) (w : List Nat) (st : Nat) (p : Pc) : Option Nat := (pcT hs p).bind fun t => if (w.drop st).take t.length = t then some (st + t.length) else none
def stp2 (hs : Ho) (m : List Nat) (p : Pc) : Option (List Nat) := (pcT hs p).map fun t => m ++ t
theorem run2_pre (hs : Ho) : ∀ (ps : List Pc) (m r : List Nat), runS (stp2 hs) m ps = some r → m <+: r
  | [], m, r, h => by cases h; exact List.prefix_refl _
  | p :: ps, m, r, h => by
    have h' : (stp2 hs m p).bind (fun s' => runS (stp2 hs) s' ps) = some r := h
    unfold stp2 at h'
    cases e : pcT hs p with
    | none => rw [e] at h'; cases h'
    | some t =>
      rw [e, Option.map_some, Option.bind_some] at h'
      exact (List.prefix_append m t).trans (run2_pre hs ps (m ++ t) r h')
theorem run_iff (hs : Ho) (w : List Nat) : ∀ (ps : List Pc) (st : Nat), st ≤ w.length → (runS (stp1 hs w) st ps = some w.length ↔ runS (stp2 hs) (w.take st) ps = some w)
  | [], st, h => by
    show some st = some w.length ↔ some (w.take st) = some w
    constructor
    · intro z; injection z with z; rw [z, List.take_length]
    · intro z
      injection z with z
      have := congrArg List.length z
      rw [List.length_take] at this
      congr 1
      omega
  | p :: ps, st, h => by
    show (stp1 hs w st p).bind (fun s' => runS (stp1 hs w) s' ps) = _ ↔ (stp2 hs (w.take st) p).bind (fun s' => runS (stp2 hs) s' ps) = _
    unfold stp1 stp2
    cases e : pcT hs p with
    | none => simp
    | some t =>
      rw [Option.bind_some, Option.map_some, Option.bind_some]
      by_cases c : (w.drop st).take t.length = t
      · rw [if_pos c, Option.bind_some]
        have hl := congrArg List.length c
        rw [List.length_take, List.length_drop] at hl
        have e2 : w.take st ++ t = w.take (st + t.length) := by rw [List.take_add, c]
        rw [e2]
        exact run_iff hs w ps (st + t.length) (by omega)
      · rw [if_neg c]
        constructor
        · intro z; cases z
        · intro z
          exfalso
          obtain ⟨r, hr⟩ := run2_pre hs ps _ _ z
          apply c
          have : w.drop st = t ++ r := by
            have h2 := congrArg (List.drop st) hr
            rw [List.append_assoc, List.drop_append, List.drop_of_length_le (by rw [List.length_take]; omega), List.length_take, show st - min st w.length = 0 by omega, List.drop_zero, List.nil_append] at h2
            exact h2.symm
          rw [this, List.take_left]
theorem pc_l0 (c : Nat) : ixD (pcD (.l c)) (.int 0) = some (.str ("letter" : String)) := ix_tup (n := 0) rfl
theorem pc_l1 (c : Nat) : ixD (pcD (.l c)) (.int 1) = some (.str (txS [c])) := ix_tup (n := 1) rfl
theorem pc_c0 (n k s : Int) : ixD (pcD (.c n k s)) (.int 0) = some (.str ("copy" : String)) := ix_tup (n := 0) rfl
theorem str_cl : eqD (.str ("copy" : String)) (.str ("letter" : String)) = some (.bool false) := eqs (by decide +kernel)
/-- the comparison behind each piece -/
theorem tail_ok {w t : List Nat} {st : Nat} {x0 x2 x3 x5 x7 x8 x9 x10 : Option D} (hw : w.length ≤ 1000) (ht : t.length ≤ 1000) : (oSeq (oIf (mB (m2 neD (m3 slD (mVar 1) (mPart (mVar 4)) (mPart (m2 addD (mVar 4) (mCB lenD (aCons (mVar 6) aNil))))) (mVar 6))) (oRet (mC (.bool false))) oSkip) (oSeq (oAug 4 augAdd (mCB lenD (aCons (mVar 6) aNil))) oSkip)) [x0, some (.str (txS w)), x2, x3, some (.int (st : Nat)), x5, some (.str (txS t)), x7, x8, x9, x10]
    = if (w.drop st).take t.length = t then .nx [x0, some (.str (txS w)), x2, x3, some (.int ((st + t.length : Nat) : Int)), x5, some (.str (txS t)), x7, x8, x9, x10] else .rt (.bool false) := by
  have lt := ap_lenS (xs := t) (sz_ge (by omega))
  have hs := sl_both (t := w) (a := st) (b := st + t.length) (sz_ge (by omega)) (by omega)
  rw [Int.natCast_add, Nat.add_sub_cancel_left] at hs
  have hn := ne_txt ((w.drop st).take t.length) t
  by_cases c : (w.drop st).take t.length = t
  · rw [decide_eq_true c] at hn
    rw [if_pos c, Int.natCast_add]
    simp only [ap_var, ap_c, ap_m1, ap_m2, ap_m3, ap_part, ap_nopart, ap_if, ap_isN, ap_notN, ap_list, ap_tup, ap_nil, ap_cons, ap_cb, ap_m1m, ap_chain, ap_isi, ap_mB, ap_asB, ap_and, ap_or, ap_not, ap_yes, ap_call, ap_lc, ap_noX, ap_iseq, ap_iown, ap_seq, th_nx, th_rt, th_exc, ap_skip, ap_set, ap_asg, ap_aug, ap_lm, ap_put, ap_oif, ap_ret, ap_drop, ap_raise, ap_gN, ap_gT, ap_gsN, ap_gsC, ap_app, Res.bind_ok, Res.bind_exc, Res.of_some, exOut_ok, exOut_exc, wipeE, Option.bind_some, List.length_cons, List.length_nil, List.getElem?_cons_zero, List.getElem?_cons_succ, List.set_cons_zero, List.set_cons_succ, List.map_cons, List.map_nil, add_ii, sub_ii, cmpI, negD, modD, ap_lenL, ap_lenT, intD, int1, int2, walkD, if_true, if_false, decide_eq_true_eq, Bool.false_eq_true, reduceIte, Nat.reduceAdd, Nat.reduceSub, List.replicate_succ, List.replicate_zero, List.cons_append, List.nil_append, lt, hs, hn, Bool.not_true, augAdd]
  · rw [decide_eq_false c] at hn
    rw [if_neg c]
    simp only [ap_var, ap_c, ap_m1, ap_m2, ap_m3, ap_part, ap_nopart, ap_if, ap_isN, ap_notN, ap_list, ap_tup, ap_nil, ap_cons, ap_cb, ap_m1m, ap_chain, ap_isi, ap_mB, ap_asB, ap_and, ap_or, ap_not, ap_yes, ap_call, ap_lc, ap_noX, ap_iseq, ap_iown, ap_seq, th_nx, th_rt, th_exc, ap_skip, ap_set, ap_asg, ap_aug, ap_lm, ap_put, ap_oif, ap_ret, ap_drop, ap_raise, ap_gN, ap_gT, ap_gsN, ap_gsC, ap_app, Res.bind_ok, Res.bind_exc, Res.of_some, exOut_ok, exOut_exc, wipeE, Option.bind_some, List.length_cons, List.length_nil, List.getElem?_cons_zero, List.getElem?_cons_succ, List.set_cons_zero, List.set_cons_succ, List.map_cons, List.map_nil, add_ii, sub_ii, cmpI, negD, modD, ap_lenL, ap_lenT, intD, int1, int2, walkD, if_true, if_false, decide_eq_true_eq, Bool.false_eq_true, reduceIte, Nat.reduceAdd, Nat.reduceSub, List.replicate_succ, List.replicate_zero, List.cons_append, List.nil_append, lt, hs, hn, Bool.not_false]
theorem pieces_of_ok {hs : Ho} (hb : HB hs) (ha : hs.Pairwise fun a b => a.1 < b.1) {w : List Nat} (hw : w.length ≤ 1000) {ps : List Pc} : m_are_pieces_of [hD hs, .str (txS w), .list (ps.map pcD)] = .ok (.bool (decide (runS (stp1 hs w) 0 ps = some w.length))) := by
  refine run_rt ?_
  show o_are_pieces_of [some (hD hs), some (.str (txS w)), some (.list (ps.map pcD)), none, none, none, none, none, none, none, none] = _
  have lw := ap_lenS (xs := w) (sz_ge (by omega))
  unfold o_are_pieces_of
  refine seq_nx (e := [some (hD hs), some (.str (txS w)), some (.list (ps.map pcD)), some (.dict (kvs hs)), none, none, none, none, none, none, none]) ?_ ?_
  · have hd := dict_h ha
    simp only [ap_var, ap_c, ap_m1, ap_m2, ap_m3, ap_part, ap_nopart, ap_if, ap_isN, ap_notN, ap_list, ap_tup, ap_nil, ap_cons, ap_cb, ap_m1m, ap_chain, ap_isi, ap_mB, ap_asB, ap_and, ap_or, ap_not, ap_yes, ap_call, ap_lc, ap_noX, ap_iseq, ap_iown, ap_seq, th_nx, th_rt, th_exc, ap_skip, ap_set, ap_asg, ap_aug, ap_lm, ap_put, ap_oif, ap_ret, ap_drop, ap_raise, ap_gN, ap_gT, ap_gsN, ap_gsC, ap_app, Res.bind_ok, Res.bind_exc, Res.of_some, exOut_ok, exOut_exc, wipeE, Option.bind_some, List.length_cons, List.length_nil, List.getElem?_cons_zero, List.getElem?_cons_succ, List.set_cons_zero, List.set_cons_succ, List.map_cons, List.map_nil, add_ii, sub_ii, cmpI, negD, modD, ap_lenL, ap_lenT, intD, int1, int2, walkD, if_true, if_false, decide_eq_true_eq, Bool.false_eq_true, reduceIte, Nat.reduceAdd, Nat.reduceSub, List.replicate_succ, List.replicate_zero, List.cons_append, List.nil_append, hd]
  refine seq_nx (e := [some (hD hs), some (.str (txS w)), some (.list (ps.map pcD)), some (.dict (kvs hs)), some (.int ((0 : Nat) : Int)), none, none, none, none, none, none]) ?_ ?_
  · simp only [ap_var, ap_c, ap_m1, ap_m2, ap_m3, ap_part, ap_nopart, ap_if, ap_isN, ap_notN, ap_list, ap_tup, ap_nil, ap_cons, ap_cb, ap_m1m, ap_chain, ap_isi, ap_mB, ap_asB, ap_and, ap_or, ap_not, ap_yes, ap_call, ap_lc, ap_noX, ap_iseq, ap_iown, ap_seq, th_nx, th_rt, th_exc, ap_skip, ap_set, ap_asg, ap_aug, ap_lm, ap_put, ap_oif, ap_ret, ap_drop, ap_raise, ap_gN, ap_gT, ap_gsN, ap_gsC, ap_app, Res.bind_ok, Res.bind_exc, Res.of_some, exOut_ok, exOut_exc, wipeE, Option.bind_some, List.length_cons, List.length_nil, List.getElem?_cons_zero, List.getElem?_cons_succ, List.set_cons_zero, List.set_cons_succ, List.map_cons, List.map_nil, add_ii, sub_ii, cmpI, negD, modD, ap_lenL, ap_lenT, intD, int1, int2, walkD, if_true, if_false, decide_eq_true_eq, Bool.false_eq_true, reduceIte, Nat.reduceAdd, Nat.reduceSub, List.replicate_succ, List.replicate_zero, List.cons_append, List.nil_append]
    rfl
  refine for_dec (stp := stp1 hs w) (fD := pcD) (R := fun _ st env => ∃ j5 j6 j7 j8 j9 j10, env = [some (hD hs), some (.str (txS w)), some (.list (ps.map pcD)), some (.dict (kvs hs)), some (.int (st : Nat)), j5, j6, j7, j8, j9, j10]) ps 0 rfl ⟨_, _, _, _, _, _, rfl⟩ ?_ ?_ ?_
  · rintro i st p env hp ⟨j5, j6, j7, j8, j9, j10, rfl⟩
    refine ⟨_, rfl, ?_⟩
    cases p with
    | l c =>
      have hbody := tail_ok (w := w) (t := [c]) (st := st) (x0 := some (hD hs)) (x2 := some (.list (ps.map pcD))) (x3 := some (.dict (kvs hs))) (x5 := some (pcD (.l c))) (x7 := j7) (x8 := j8) (x9 := j9) (x10 := j10) hw (by simp)
      have hst : stp1 hs w st (.l c) = if (w.drop st).take [c].length = [c] then some (st + [c].length) else none := rfl
      have hfirst : ∀ o2, oSeq (oIf (mB (m2 eqD (m2 ixD (mVar 5) (mC (.int 0))) (mC (.str ("letter" : String))))) (oSet 6 (m2 ixD (mVar 5) (mC (.int 1)))) (oSeq (oAsg (mVar 5) (gT' 4 (gsC (gN 7) (gsC (gN 8) (gsC (gN 9) (gsC (gN 10) gsN)))))) (oSeq (oIf (bOr (mB (m2 notInKD (mVar 8) (mVar 3))) (bOr (mB (m2 ltI (mVar 10) (mC (.int 1)))) (bOr (mB (m2 ltI (mVar 9) (mC (.int 0)))) (mB (m2 gtI (m2 addD (mVar 9) (mVar 10)) (mCB lenD (aCons (m2 dixD (mVar 3) (mVar 8)) aNil))))))) (oRet (mC (.bool false))) oSkip) (oSeq (oSet 6 (m3 slD (m2 dixD (mVar 3) (mVar 8)) (mPart (mVar 9)) (mPart (m2 addD (mVar 9) (mVar 10))))) oSkip)))) o2 [some (hD hs), some (.str (txS w)), some (.list (ps.map pcD)), some (.dict (kvs hs)), some (.int (st : Nat)), some (pcD (.l c)), j6, j7, j8, j9, j10] = o2 [some (hD hs), some (.str (txS w)), some (.list (ps.map pcD)), some (.dict (kvs hs)), some (.int (st : Nat)), some (pcD (.l c)), some (.str (txS [c])), j7, j8, j9, j10] := fun o2 => by
        have h0 := pc_l0 c
        have h1 := pc_l1 c
        generalize pcD (.l c) = P at h0 h1
        simp only [ap_var, ap_c, ap_m1, ap_m2, ap_m3, ap_part, ap_nopart, ap_if, ap_isN, ap_notN, ap_list, ap_tup, ap_nil, ap_cons, ap_cb, ap_m1m, ap_chain, ap_isi, ap_mB, ap_asB, ap_and, ap_or, ap_not, ap_yes, ap_call, ap_lc, ap_noX, ap_iseq, ap_iown, ap_seq, th_nx, th_rt, th_exc, ap_skip, ap_set, ap_asg, ap_aug, ap_lm, ap_put, ap_oif, ap_ret, ap_drop, ap_raise, ap_gN, ap_gT, ap_gsN, ap_gsC, ap_app, Res.bind_ok, Res.bind_exc, Res.of_some, exOut_ok, exOut_exc, wipeE, Option.bind_some, List.length_cons, List.length_nil, List.getElem?_cons_zero, List.getElem?_cons_succ, List.set_cons_zero, List.set_cons_succ, List.map_cons, List.map_nil, add_ii, sub_ii, cmpI, negD, modD, ap_lenL, ap_lenT, intD, int1, int2, walkD, if_true, if_false, decide_eq_true_eq, Bool.false_eq_true, reduceIte, Nat.reduceAdd, Nat.reduceSub, List.replicate_succ, List.replicate_zero, List.cons_append, List.nil_append, h0, h1, str_pl]
      rw [hst]
      by_cases cc : (w.drop st).take [c].length = [c]
      · rw [if_pos cc] at hbody ⊢
        exact .inr ⟨_, _, rfl, (hfirst _).trans hbody, _, _, _, _, _, _, rfl⟩
      · rw [if_neg cc] at hbody ⊢
        exact .inl ⟨rfl, (hfirst _).trans hbody⟩
    | c n k s =>
      have h0 := pc_c0 n k s
      have hnot := notin_h hs n
      have hdx := dix_h hs n
      cases hl : look hs n with
      | none =>
        rw [hl] at hnot
        refine .inl ⟨by unfold stp1; rw [pcT_c, hl]; rfl, ?_⟩
        rw [ap_seq, ap_oif]
        simp only [ap_mB, ap_asB, ap_m2, ap_var, ap_c, Res.bind_ok, Res.of_some, List.getElem?_cons_zero, List.getElem?_cons_succ, List.set_cons_zero, List.set_cons_succ, h0, str_cl, exOut_ok, Bool.false_eq_true, if_false]
        unfold pcD
        simp only [ap_var, ap_c, ap_m1, ap_m2, ap_m3, ap_part, ap_nopart, ap_if, ap_isN, ap_notN, ap_list, ap_tup, ap_nil, ap_cons, ap_cb, ap_m1m, ap_chain, ap_isi, ap_mB, ap_asB, ap_and, ap_or, ap_not, ap_yes, ap_call, ap_lc, ap_noX, ap_iseq, ap_iown, ap_seq, th_nx, th_rt, th_exc, ap_skip, ap_set, ap_asg, ap_aug, ap_lm, ap_put, ap_oif, ap_ret, ap_drop, ap_raise, ap_gN, ap_gT, ap_gsN, ap_gsC, ap_app, Res.bind_ok, Res.bind_exc, Res.of_some, exOut_ok, exOut_exc, wipeE, Option.bind_some, List.length_cons, List.length_nil, List.getElem?_cons_zero, List.getElem?_cons_succ, List.set_cons_zero, List.set_cons_succ, List.map_cons, List.map_nil, add_ii, sub_ii, cmpI, negD, modD, ap_lenL, ap_lenT, intD, int1, int2, walkD, if_true, if_false, decide_eq_true_eq, Bool.false_eq_true, reduceIte, Nat.reduceAdd, Nat.reduceSub, List.replicate_succ, List.replicate_zero, List.cons_append, List.nil_append, hnot, Option.isNone_none]
      | some t =>
        rw [hl] at hnot hdx
        have htl := look_len hb hl
        have lt := ap_lenS (xs := t) (sz_ge (by omega))
        rw [Option.map_some] at hdx
        have hp : pcT hs (.c n k s) = if 1 ≤ s ∧ 0 ≤ k ∧ k + s ≤ (t.length : Int) then some ((t.drop k.toNat).take s.toNat) else none := by
          rw [pcT_c, hl]; rfl
        by_cases g : 1 ≤ s ∧ 0 ≤ k ∧ k + s ≤ (t.length : Int)
        · obtain ⟨g1, g2, g3⟩ := g
          rw [if_pos ⟨g1, g2, g3⟩] at hp
          obtain ⟨u, hu⟩ : ∃ u, u = (t.drop k.toNat).take s.toNat := ⟨_, rfl⟩
          rw [← hu] at hp
          have hul : u.length ≤ 1000 := by rw [hu, List.length_take]; omega
          have n1 : ¬ s < 1 := by omega
          have n2 : ¬ k < 0 := by omega
          have n3 : ¬ (t.length : Int) < k + s := by omega
          have hsl := sl_both (t := t) (a := k.toNat) (b := k.toNat + s.toNat) (sz_ge (by omega)) (by omega)
          rw [Nat.add_sub_cancel_left, ← hu, show ((k.toNat : Nat) : Int) = k by omega, show ((k.toNat + s.toNat : Nat) : Int) = k + s by omega] at hsl
          have hbody := tail_ok (w := w) (t := u) (st := st) (x0 := some (hD hs)) (x2 := some (.list (ps.map pcD))) (x3 := some (.dict (kvs hs))) (x5 := some (pcD (.c n k s))) (x7 := some (.str ("copy" : String))) (x8 := some (.int n)) (x9 := some (.int k)) (x10 := some (.int s)) hw hul
          have hst : stp1 hs w st (.c n k s) = if (w.drop st).take u.length = u then some (st + u.length) else none := by unfold stp1; rw [hp]; rfl
          have hfirst : ∀ o2, oSeq (oIf (mB (m2 eqD (m2 ixD (mVar 5) (mC (.int 0))) (mC (.str ("letter" : String))))) (oSet 6 (m2 ixD (mVar 5) (mC (.int 1)))) (oSeq (oAsg (mVar 5) (gT' 4 (gsC (gN 7) (gsC (gN 8) (gsC (gN 9) (gsC (gN 10) gsN)))))) (oSeq (oIf (bOr (mB (m2 notInKD (mVar 8) (mVar 3))) (bOr (mB (m2 ltI (mVar 10) (mC (.int 1)))) (bOr (mB (m2 ltI (mVar 9) (mC (.int 0)))) (mB (m2 gtI (m2 addD (mVar 9) (mVar 10)) (mCB lenD (aCons (m2 dixD (mVar 3) (mVar 8)) aNil))))))) (oRet (mC (.bool false))) oSkip) (oSeq (oSet 6 (m3 slD (m2 dixD (mVar 3) (mVar 8)) (mPart (mVar 9)) (mPart (m2 addD (mVar 9) (mVar 10))))) oSkip)))) o2 [some (hD hs), some (.str (txS w)), some (.list (ps.map pcD)), some (.dict (kvs hs)), some (.int (st : Nat)), some (pcD (.c n k s)), j6, j7, j8, j9, j10] = o2 [some (hD hs), some (.str (txS w)), some (.list (ps.map pcD)), some (.dict (kvs hs)), some (.int (st : Nat)), some (pcD (.c n k s)), some (.str (txS u)), some (.str ("copy" : String)), some (.int n), some (.int k), some (.int s)] := fun o2 => by
            rw [ap_seq, ap_oif]
            simp only [ap_mB, ap_asB, ap_m2, ap_var, ap_c, Res.bind_ok, Res.of_some, List.getElem?_cons_zero, List.getElem?_cons_succ, List.set_cons_zero, List.set_cons_succ, h0, str_cl, exOut_ok, Bool.false_eq_true, if_false]
            unfold pcD
            simp only [ap_var, ap_c, ap_m1, ap_m2, ap_m3, ap_part, ap_nopart, ap_if, ap_isN, ap_notN, ap_list, ap_tup, ap_nil, ap_cons, ap_cb, ap_m1m, ap_chain, ap_isi, ap_mB, ap_asB, ap_and, ap_or, ap_not, ap_yes, ap_call, ap_lc, ap_noX, ap_iseq, ap_iown, ap_seq, th_nx, th_rt, th_exc, ap_skip, ap_set, ap_asg, ap_aug, ap_lm, ap_put, ap_oif, ap_ret, ap_drop, ap_raise, ap_gN, ap_gT, ap_gsN, ap_gsC, ap_app, Res.bind_ok, Res.bind_exc, Res.of_some, exOut_ok, exOut_exc, wipeE, Option.bind_some, List.length_cons, List.length_nil, List.getElem?_cons_zero, List.getElem?_cons_succ, List.set_cons_zero, List.set_cons_succ, List.map_cons, List.map_nil, add_ii, sub_ii, cmpI, negD, modD, ap_lenL, ap_lenT, intD, int1, int2, walkD, if_true, if_false, decide_eq_true_eq, Bool.false_eq_true, reduceIte, Nat.reduceAdd, Nat.reduceSub, List.replicate_succ, List.replicate_zero, List.cons_append, List.nil_append, hnot, hdx, lt, n1, n2, n3, decide_false, Option.isNone_some, hsl]
          rw [hst]
          by_cases cc : (w.drop st).take u.length = u
          · rw [if_pos cc] at hbody ⊢
            exact .inr ⟨_, _, rfl, (hfirst _).trans hbody, _, _, _, _, _, _, rfl⟩
          · rw [if_neg cc] at hbody ⊢
            exact .inl ⟨rfl, (hfirst _).trans hbody⟩
        · rw [if_neg g] at hp
          refine .inl ⟨by unfold stp1; rw [hp]; rfl, ?_⟩
          rw [ap_seq, ap_oif]
          simp only [ap_mB, ap_asB, ap_m2, ap_var, ap_c, Res.bind_ok, Res.of_some, List.getElem?_cons_zero, List.getElem?_cons_succ, List.set_cons_zero, List.set_cons_succ, h0, str_cl, exOut_ok, Bool.false_eq_true, if_false]
          unfold pcD
          by_cases n1 : s < 1
          · simp only [ap_var, ap_c, ap_m1, ap_m2, ap_m3, ap_part, ap_nopart, ap_if, ap_isN, ap_notN, ap_list, ap_tup, ap_nil, ap_cons, ap_cb, ap_m1m, ap_chain, ap_isi, ap_mB, ap_asB, ap_and, ap_or, ap_not, ap_yes, ap_call, ap_lc, ap_noX, ap_iseq, ap_iown, ap_seq, th_nx, th_rt, th_exc, ap_skip, ap_set, ap_asg, ap_aug, ap_lm, ap_put, ap_oif, ap_ret, ap_drop, ap_raise, ap_gN, ap_gT, ap_gsN, ap_gsC, ap_app, Res.bind_ok, Res.bind_exc, Res.of_some, exOut_ok, exOut_exc, wipeE, Option.bind_some, List.length_cons, List.length_nil, List.getElem?_cons_zero, List.getElem?_cons_succ, List.set_cons_zero, List.set_cons_succ, List.map_cons, List.map_nil, add_ii, sub_ii, cmpI, negD, modD, ap_lenL, ap_lenT, intD, int1, int2, walkD, if_true, if_false, decide_eq_true_eq, Bool.false_eq_true, reduceIte, Nat.reduceAdd, Nat.reduceSub, List.replicate_succ, List.replicate_zero, List.cons_append, List.nil_append, hnot, Option.isNone_some, n1, decide_true]
          · by_cases n2 : k < 0
            · simp only [ap_var, ap_c, ap_m1, ap_m2, ap_m3, ap_part, ap_nopart, ap_if, ap_isN, ap_notN, ap_list, ap_tup, ap_nil, ap_cons, ap_cb, ap_m1m, ap_chain, ap_isi, ap_mB, ap_asB, ap_and, ap_or, ap_not, ap_yes, ap_call, ap_lc, ap_noX, ap_iseq, ap_iown, ap_seq, th_nx, th_rt, th_exc, ap_skip, ap_set, ap_asg, ap_aug, ap_lm, ap_put, ap_oif, ap_ret, ap_drop, ap_raise, ap_gN, ap_gT, ap_gsN, ap_gsC, ap_app, Res.bind_ok, Res.bind_exc, Res.of_some, exOut_ok, exOut_exc, wipeE, Option.bind_some, List.length_cons, List.length_nil, List.getElem?_cons_zero, List.getElem?_cons_succ, List.set_cons_zero, List.set_cons_succ, List.map_cons, List.map_nil, add_ii, sub_ii, cmpI, negD, modD, ap_lenL, ap_lenT, intD, int1, int2, walkD, if_true, if_false, decide_eq_true_eq, Bool.false_eq_true, reduceIte, Nat.reduceAdd, Nat.reduceSub, List.replicate_succ, List.replicate_zero, List.cons_append, List.nil_append, hnot, Option.isNone_some, n1, n2, decide_true, decide_false]
            · have n3 : (t.length : Int) < k + s := by omega
              simp only [ap_var, ap_c, ap_m1, ap_m2, ap_m3, ap_part, ap_nopart, ap_if, ap_isN, ap_notN, ap_list, ap_tup, ap_nil, ap_cons, ap_cb, ap_m1m, ap_chain, ap_isi, ap_mB, ap_asB, ap_and, ap_or, ap_not, ap_yes, ap_call, ap_lc, ap_noX, ap_iseq, ap_iown, ap_seq, th_nx, th_rt, th_exc, ap_skip, ap_set, ap_asg, ap_aug, ap_lm, ap_put, ap_oif, ap_ret, ap_drop, ap_raise, ap_gN, ap_gT, ap_gsN, ap_gsC, ap_app, Res.bind_ok, Res.bind_exc, Res.of_some, exOut_ok, exOut_exc, wipeE, Option.bind_some, List.length_cons, List.length_nil, List.getElem?_cons_zero, List.getElem?_cons_succ, List.set_cons_zero, List.set_cons_succ, List.map_cons, List.map_nil, add_ii, sub_ii, cmpI, negD, modD, ap_lenL, ap_lenT, intD, int1, int2, walkD, if_true, if_false, decide_eq_true_eq, Bool.false_eq_true, reduceIte, Nat.reduceAdd, Nat.reduceSub, List.replicate_succ, List.replicate_zero, List.cons_append, List.nil_append, hnot, hdx, lt, Option.isNone_some, n1, n2, n3, decide_true, decide_false]
  · intro z1
    rw [z1]
    rfl
  · rintro st' env' z1 ⟨j5, j6, j7, j8, j9, j10, rfl⟩
    rw [z1]
    have q : eqD (.int (st' : Nat)) (.int w.length) = some (.bool (decide (some st' = some w.length))) := by
      refine eqi ?_
      by_cases c : st' = w.length
      · rw [decide_eq_true (by rw [c]), decide_eq_true (by rw [c])]
      · rw [decide_eq_false (by omega), decide_eq_false (fun z => c (by injection z))]
    simp only [ap_ret, ap_m2, ap_cb, ap_cons, ap_nil, ap_var, Res.bind_ok, Res.of_some, List.getElem?_cons_zero, List.getElem?_cons_succ, lw, q, exOut_ok]
end K48

namespace K48
open PySem PySem.Spec L2 DL
theorem lcG_map {α : Type} {g : D → Env' → Option Env'} {nc : Env' → Res Bool} {m : Env' → Res D} {env : Env'} (fD : α → D) (q : α → Bool) (f : α → D) : ∀ l : List α, (∀ a ∈ l, ∃ e1, g (fD a) env = some e1 ∧ nc e1 = .ok (q a) ∧ (q a = true → m e1 = .ok (f a))) → lcG g nc m (l.map fD) env = .ok ((l.filter q).map f)
  | [], _ => rfl
  | a :: l, h => by
    obtain ⟨e1, h1, h2, h3⟩ := h a (by simp)
    have ih := lcG_map fD q f l fun z hz => h z (by simp [hz])
    rw [List.map_cons, lcG, h1, List.filter_cons]
    show (noX (nc e1)).bind _ = _
    rw [h2, ap_noX, Res.bind_ok]
    cases hq : q a with
    | true =>
      rw [if_pos rfl, h3 hq, ap_noX, Res.bind_ok, ih, Res.bind_ok]
      rfl
    | false =>
      rw [if_neg (by decide), ih]
      rfl
theorem range_get {n i a : Nat} (h : (List.range n)[i]? = some a) : i < n ∧ a = i := by
  have hi := lt_of_get h
  rw [List.length_range] at hi
  rw [List.getElem?_range hi] at h
  exact ⟨hi, by injection h with h; exact h.symm⟩
/-! ### apart -/
def wat (ws : List Wi) (k : Nat) : Wi := ws.getD k (0, 0)
def badP (ws : List Wi) (k : Nat) : Bool := geP (wat ws (k - 1)) (wat ws k) || decide ((wat ws k).1 < (wat ws (k - 1)).2)
def apB (ws : List Wi) : Bool := !((List.range (ws.length - 1)).any fun i => badP ws (i + 1))
theorem wat_get {ws : List Wi} {k : Nat} (h : k < ws.length) : ws[k]? = some (wat ws k) := by
  unfold wat
  rw [List.getD_eq_getElem?_getD, List.getElem?_eq_getElem h]
  rfl
theorem tri_ix {ws : List Wi} {k : Nat} {i : Int} (hi : i = k) (h : k < ws.length) : ixD (.list (ws.map triD)) (.int i) = some (triD (wat ws k)) := ix_int hi (by rw [List.getElem?_map, wat_get h]; rfl)
theorem tri0 (p : Wi) : ixD (triD p) (.int 0) = some (.int 0) := ix_tup (n := 0) rfl
theorem tri1 (p : Wi) : ixD (triD p) (.int 1) = some (.int p.1) := ix_tup (n := 1) rfl
theorem tri2 (p : Wi) : ixD (triD p) (.int 2) = some (.int p.2) := ix_tup (n := 2) rfl
theorem apart_ok (ws : List Wi) : m_are_apart [.list (ws.map triD)] = .ok (.bool (apB ws)) := by
  refine run_rt ?_
  show o_are_apart [some (.list (ws.map triD)), none] = _
  unfold o_are_apart
  refine for_dec (stp := fun (_ : Unit) (i : Nat) => if badP ws (i + 1) = true then none else some ()) (fD := fun i : Nat => .int (1 + (i : Int))) (R := fun _ _ env => ∃ j, env = [some (.list (ws.map triD)), j]) (List.range (ws.length - 1)) () ?_ ⟨_, rfl⟩ ?_ ?_ ?_
  · refine irangeG_ok (i := 1) (j := (ws.length : Int)) (n := ws.length - 1) ?_ (by omega)
    simp only [ap_var, ap_c, ap_m1, ap_m2, ap_m3, ap_part, ap_nopart, ap_if, ap_isN, ap_notN, ap_list, ap_tup, ap_nil, ap_cons, ap_cb, ap_m1m, ap_chain, ap_isi, ap_mB, ap_asB, ap_and, ap_or, ap_not, ap_yes, ap_call, ap_lc, ap_noX, ap_iseq, ap_iown, ap_seq, th_nx, th_rt, th_exc, ap_skip, ap_set, ap_asg, ap_aug, ap_lm, ap_put, ap_oif, ap_ret, ap_drop, ap_raise, ap_gN, ap_gT, ap_gsN, ap_gsC, ap_app, Res.bind_ok, Res.bind_exc, Res.of_some, exOut_ok, exOut_exc, wipeE, Option.bind_some, List.length_cons, List.length_nil, List.getElem?_cons_zero, List.getElem?_cons_succ, List.set_cons_zero, List.set_cons_succ, List.map_cons, List.map_nil, add_ii, sub_ii, cmpI, negD, modD, ap_lenL, ap_lenT, intD, int1, int2, walkD, if_true, if_false, decide_eq_true_eq, Bool.false_eq_true, reduceIte, Nat.reduceAdd, Nat.reduceSub, List.replicate_succ, List.replicate_zero, List.cons_append, List.nil_append, List.length_map]
  · rintro i s a env ha ⟨j, rfl⟩
    obtain ⟨hi, rfl⟩ := range_get ha
    have x1 := tri_ix (ws := ws) (i := 1 + (a : Int) - 1) (k := a) (by omega) (by omega)
    have x2 := tri_ix (ws := ws) (i := 1 + (a : Int)) (k := a + 1) (by omega) (by omega)
    have g := ge3 (wat ws a) (wat ws (a + 1))
    have e0 : eqD (.int 0) (.int 0) = some (.bool true) := eqi (b := true) (decide_eq_true rfl)
    have hb : badP ws (a + 1) = (geP (wat ws a) (wat ws (a + 1)) || decide ((wat ws (a + 1)).1 < (wat ws a).2)) := rfl
    refine ⟨_, rfl, ?_⟩
    show ((if badP ws (a + 1) = true then none else some ()) = none ∧ _) ∨ _
    rw [hb]
    cases hg : geP (wat ws a) (wat ws (a + 1)) with
    | true =>
      rw [hg] at g
      rw [Bool.true_or, if_pos rfl]
      exact .inl ⟨rfl, by simp only [ap_var, ap_c, ap_m1, ap_m2, ap_m3, ap_part, ap_nopart, ap_if, ap_isN, ap_notN, ap_list, ap_tup, ap_nil, ap_cons, ap_cb, ap_m1m, ap_chain, ap_isi, ap_mB, ap_asB, ap_and, ap_or, ap_not, ap_yes, ap_call, ap_lc, ap_noX, ap_iseq, ap_iown, ap_seq, th_nx, th_rt, th_exc, ap_skip, ap_set, ap_asg, ap_aug, ap_lm, ap_put, ap_oif, ap_ret, ap_drop, ap_raise, ap_gN, ap_gT, ap_gsN, ap_gsC, ap_app, Res.bind_ok, Res.bind_exc, Res.of_some, exOut_ok, exOut_exc, wipeE, Option.bind_some, List.length_cons, List.length_nil, List.getElem?_cons_zero, List.getElem?_cons_succ, List.set_cons_zero, List.set_cons_succ, List.map_cons, List.map_nil, add_ii, sub_ii, cmpI, negD, modD, ap_lenL, ap_lenT, intD, int1, int2, walkD, if_true, if_false, decide_eq_true_eq, Bool.false_eq_true, reduceIte, Nat.reduceAdd, Nat.reduceSub, List.replicate_succ, List.replicate_zero, List.cons_append, List.nil_append, x1, x2, g]⟩
    | false =>
      rw [hg] at g
      rw [Bool.false_or]
      have t0 := tri0 (wat ws a)
      have t0' := tri0 (wat ws (a + 1))
      have t1 := tri1 (wat ws (a + 1))
      have t2 := tri2 (wat ws a)
      by_cases c : (wat ws (a + 1)).1 < (wat ws a).2
      · rw [decide_eq_true c, if_pos rfl]
        exact .inl ⟨rfl, by simp only [ap_var, ap_c, ap_m1, ap_m2, ap_m3, ap_part, ap_nopart, ap_if, ap_isN, ap_notN, ap_list, ap_tup, ap_nil, ap_cons, ap_cb, ap_m1m, ap_chain, ap_isi, ap_mB, ap_asB, ap_and, ap_or, ap_not, ap_yes, ap_call, ap_lc, ap_noX, ap_iseq, ap_iown, ap_seq, th_nx, th_rt, th_exc, ap_skip, ap_set, ap_asg, ap_aug, ap_lm, ap_put, ap_oif, ap_ret, ap_drop, ap_raise, ap_gN, ap_gT, ap_gsN, ap_gsC, ap_app, Res.bind_ok, Res.bind_exc, Res.of_some, exOut_ok, exOut_exc, wipeE, Option.bind_some, List.length_cons, List.length_nil, List.getElem?_cons_zero, List.getElem?_cons_succ, List.set_cons_zero, List.set_cons_succ, List.map_cons, List.map_nil, add_ii, sub_ii, cmpI, negD, modD, ap_lenL, ap_lenT, intD, int1, int2, walkD, if_true, if_false, decide_eq_true_eq, Bool.false_eq_true, reduceIte, Nat.reduceAdd, Nat.reduceSub, List.replicate_succ, List.replicate_zero, List.cons_append, List.nil_append, x1, x2, g, t0, t0', t1, t2, e0, c, decide_true]⟩
      · rw [decide_eq_false c, if_neg (by decide)]
        exact .inr ⟨(), [some (.list (ws.map triD)), some (.int (1 + (a : Int)))], rfl, by simp only [ap_var, ap_c, ap_m1, ap_m2, ap_m3, ap_part, ap_nopart, ap_if, ap_isN, ap_notN, ap_list, ap_tup, ap_nil, ap_cons, ap_cb, ap_m1m, ap_chain, ap_isi, ap_mB, ap_asB, ap_and, ap_or, ap_not, ap_yes, ap_call, ap_lc, ap_noX, ap_iseq, ap_iown, ap_seq, th_nx, th_rt, th_exc, ap_skip, ap_set, ap_asg, ap_aug, ap_lm, ap_put, ap_oif, ap_ret, ap_drop, ap_raise, ap_gN, ap_gT, ap_gsN, ap_gsC, ap_app, Res.bind_ok, Res.bind_exc, Res.of_some, exOut_ok, exOut_exc, wipeE, Option.bind_some, List.length_cons, List.length_nil, List.getElem?_cons_zero, List.getElem?_cons_succ, List.set_cons_zero, List.set_cons_succ, List.map_cons, List.map_nil, add_ii, sub_ii, cmpI, negD, modD, ap_lenL, ap_lenT, intD, int1, int2, walkD, if_true, if_false, decide_eq_true_eq, Bool.false_eq_true, reduceIte, Nat.reduceAdd, Nat.reduceSub, List.replicate_succ, List.replicate_zero, List.cons_append, List.nil_append, x1, x2, g, t0, t0', t1, t2, e0, c, decide_false], _, rfl⟩
  · intro z
    rw [runS_all (fun i => badP ws (i + 1))] at z
    unfold apB
    cases h : (List.range (ws.length - 1)).any fun i => badP ws (i + 1) with
    | true => rfl
    | false => rw [h] at z; cases z
  · rintro s env z ⟨j, rfl⟩
    rw [runS_all (fun i => badP ws (i + 1))] at z
    unfold apB
    cases h : (List.range (ws.length - 1)).any fun i => badP ws (i + 1) with
    | true => rw [h] at z; cases z
    | false => rfl
/-! ### places -/
def wN (p : Nat × Nat) : D := .tuple [.int p.1, .int p.2]
theorem shaped_wN {L : List (Nat × Nat)} (h : ∀ p ∈ L, p.1 < 1000000 ∧ p.2 < 1000000) : SeqAt.shaped (.list (L.map wN)) = true := by
  refine (Sm.list (w := 200) (dp := 1) (ds := L.map wN) ?_).shaped (by omega)
  intro d hd
  obtain ⟨p, hp, rfl⟩ := List.mem_map.mp hd
  have := h p hp
  have h2 := Sm.tuple (w := 64) (dp := 0) (ds := [.int p.1, .int p.2]) (by
    intro d hd
    simp only [List.mem_cons, List.not_mem_nil, or_false] at hd
    rcases hd with rfl | rfl
    · exact Sm.int (by omega)
    · exact Sm.int (by omega))
  exact h2.mono (by simp) (by omega)
theorem places_ok {hs : Ho} (hb : HB hs) {u : List Nat} (hu : u.length ≤ 1000) : ∃ L : List (Nat × Nat), m_places [hD hs, .str (txS u)] = .ok (.list (L.map wN)) ∧ (∀ p ∈ L, p.1 < 1000000 ∧ p.2 < 1000000) ∧ (L = [] ↔ ¬ InH hs u) := by
  suffices H : ∃ x, o_places [some (hD hs), some (.str (txS u)), none, none, none, none] = x ∧ ∃ L : List (Nat × Nat), x = .rt (.list (L.map wN)) ∧ (∀ p ∈ L, p.1 < 1000000 ∧ p.2 < 1000000) ∧ (L = [] ↔ ¬ InH hs u) by
    obtain ⟨x, h0, L, h1, h2⟩ := H
    exact ⟨L, run_rt (h0.trans h1), h2⟩
  have z0 : 0 ≤ sizeLine := sz_ge (by omega)
  have z2 : 2 ≤ sizeLine := sz_ge (by omega)
  have lu := ap_lenS (xs := u) (sz_ge (by omega))
  refine seq_ex (e := [some (hD hs), some (.str (txS u)), some (.list (([] : List (Nat × Nat)).map wN)), none, none, none]) ?_ ?_
  · simp only [ap_var, ap_c, ap_m1, ap_m2, ap_m3, ap_part, ap_nopart, ap_if, ap_isN, ap_notN, ap_list, ap_tup, ap_nil, ap_cons, ap_cb, ap_m1m, ap_chain, ap_isi, ap_mB, ap_asB, ap_and, ap_or, ap_not, ap_yes, ap_call, ap_lc, ap_noX, ap_iseq, ap_iown, ap_seq, th_nx, th_rt, th_exc, ap_skip, ap_set, ap_asg, ap_aug, ap_lm, ap_put, ap_oif, ap_ret, ap_drop, ap_raise, ap_gN, ap_gT, ap_gsN, ap_gsC, ap_app, Res.bind_ok, Res.bind_exc, Res.of_some, exOut_ok, exOut_exc, wipeE, Option.bind_some, List.length_cons, List.length_nil, List.getElem?_cons_zero, List.getElem?_cons_succ, List.set_cons_zero, List.set_cons_succ, List.map_cons, List.map_nil, add_ii, sub_ii, cmpI, negD, modD, ap_lenL, ap_lenT, intD, int1, int2, walkD, if_true, if_false, decide_eq_true_eq, Bool.false_eq_true, reduceIte, Nat.reduceAdd, Nat.reduceSub, List.replicate_succ, List.replicate_zero, List.cons_append, List.nil_append, z0]
  refine seq_for (fun i e => ∃ (L : List (Nat × Nat)) (j3 j4 j5 : Option D), e = [some (hD hs), some (.str (txS u)), some (.list (L.map wN)), j3, j4, j5] ∧ L.length ≤ 102 * i ∧ (∀ p ∈ L, p.1 < 1000000 ∧ p.2 < 1000000) ∧ (L = [] ↔ ∀ p ∈ hs.take i, ¬ DL.St u p.2)) (hs.map enD) rfl ⟨[], _, _, _, rfl, by simp, by simp, by simp⟩ ?_ ?_
  · rintro i d e hd ⟨L, j3, j4, j5, rfl, q1, q2, q3⟩
    obtain ⟨p, hp, rfl⟩ := map_get hd
    have hpm := List.mem_of_getElem? hp
    have hp2 := hb.2.1 p hpm
    have hp3 := hb.2.2 p hpm
    have lp := ap_lenS (xs := p.2) (sz_ge (by omega))
    have hi := lt_of_get hp
    have hlen := hb.1
    suffices HH : ∃ o, (oSeq (oFor (iRange (aCons (m2 addD (m2 subD (mCB lenD (aCons (mVar 4) aNil)) (mCB lenD (aCons (mVar 1) aNil))) (mC (.int 1))) aNil)) (gN 5) (oSeq (oIf (mB (m2 eqD (m3 slD (mVar 4) (mPart (mVar 5)) (mPart (m2 addD (mVar 5) (mCB lenD (aCons (mVar 1) aNil))))) (mVar 1))) (oLM 2 lApp (aCons (mTup (aCons (mVar 3) (aCons (mVar 5) aNil))) aNil)) oSkip) oSkip)) oSkip) [some (hD hs), some (.str (txS u)), some (.list (L.map wN)), some (.int p.1), some (.str (txS p.2)), j5] = o ∧ ∃ (L' : List (Nat × Nat)) (j5 : Option D), o = .nx [some (hD hs), some (.str (txS u)), some (.list (L'.map wN)), some (.int p.1), some (.str (txS p.2)), j5] ∧ L'.length ≤ 102 * (i + 1) ∧ (∀ p ∈ L', p.1 < 1000000 ∧ p.2 < 1000000) ∧ (L' = [] ↔ L = [] ∧ ¬ DL.St u p.2) by
      obtain ⟨o, z1, L', j5', rfl, z2, z3, z4⟩ := HH
      refine ⟨_, _, rfl, z1, L', _, _, _, rfl, z2, z3, ?_⟩
      rw [z4, q3, take_snoc hp]
      constructor
      · rintro ⟨a, b⟩ x hx
        rcases List.mem_append.mp hx with hx | hx
        · exact a x hx
        · simp at hx; subst hx; exact b
      · intro a
        exact ⟨fun x hx => a x (List.mem_append_left _ hx), a p (by simp)⟩
    refine seq_for (fun k e => ∃ (L' : List (Nat × Nat)) (j5 : Option D), e = [some (hD hs), some (.str (txS u)), some (.list (L'.map wN)), some (.int p.1), some (.str (txS p.2)), j5] ∧ L'.length ≤ L.length + k ∧ (∀ p ∈ L', p.1 < 1000000 ∧ p.2 < 1000000) ∧ (L' = [] ↔ L = [] ∧ ∀ k', k' < k → ¬ (p.2.drop k').take u.length = u)) (rng 0 (p.2.length + 1 - u.length)) ?_ ⟨L, _, rfl, by omega, q2, by simp⟩ ?_ ?_
    · refine irange_ok (l := [.int ((p.2.length : Int) - (u.length : Int) + 1)]) ?_ (range_i (by unfold small62; omega) (by omega))
      simp only [ap_var, ap_c, ap_m1, ap_m2, ap_m3, ap_part, ap_nopart, ap_if, ap_isN, ap_notN, ap_list, ap_tup, ap_nil, ap_cons, ap_cb, ap_m1m, ap_chain, ap_isi, ap_mB, ap_asB, ap_and, ap_or, ap_not, ap_yes, ap_call, ap_lc, ap_noX, ap_iseq, ap_iown, ap_seq, th_nx, th_rt, th_exc, ap_skip, ap_set, ap_asg, ap_aug, ap_lm, ap_put, ap_oif, ap_ret, ap_drop, ap_raise, ap_gN, ap_gT, ap_gsN, ap_gsC, ap_app, Res.bind_ok, Res.bind_exc, Res.of_some, exOut_ok, exOut_exc, wipeE, Option.bind_some, List.length_cons, List.length_nil, List.getElem?_cons_zero, List.getElem?_cons_succ, List.set_cons_zero, List.set_cons_succ, List.map_cons, List.map_nil, add_ii, sub_ii, cmpI, negD, modD, ap_lenL, ap_lenT, intD, int1, int2, walkD, if_true, if_false, decide_eq_true_eq, Bool.false_eq_true, reduceIte, Nat.reduceAdd, Nat.reduceSub, List.replicate_succ, List.replicate_zero, List.cons_append, List.nil_append, lp, lu]
    · rintro k d e hd ⟨L', j5, rfl, r1, r2, r3⟩
      rw [rng_get] at hd
      split at hd <;> cases hd
      rename_i hk
      rw [Int.zero_add]
      have hs2 := sl_both (t := p.2) (a := k) (b := k + u.length) (sz_ge (by omega)) (by omega)
      rw [Int.natCast_add, Nat.add_sub_cancel_left] at hs2
      have he := eq_txt ((p.2.drop k).take u.length) u
      have hzz : (L'.map wN).length < sizeLine := sz_gt (by simp; omega)
      by_cases c : (p.2.drop k).take u.length = u
      · rw [decide_eq_true c] at he
        refine ⟨_, [some (hD hs), some (.str (txS u)), some (.list ((L' ++ [(p.1, k)]).map wN)), some (.int p.1), some (.str (txS p.2)), some (.int (k : Int))], rfl, ?_, L' ++ [(p.1, k)], _, rfl, by simp; omega, ?_, ?_⟩
        · rw [List.map_append]
          simp only [ap_var, ap_c, ap_m1, ap_m2, ap_m3, ap_part, ap_nopart, ap_if, ap_isN, ap_notN, ap_list, ap_tup, ap_nil, ap_cons, ap_cb, ap_m1m, ap_chain, ap_isi, ap_mB, ap_asB, ap_and, ap_or, ap_not, ap_yes, ap_call, ap_lc, ap_noX, ap_iseq, ap_iown, ap_seq, th_nx, th_rt, th_exc, ap_skip, ap_set, ap_asg, ap_aug, ap_lm, ap_put, ap_oif, ap_ret, ap_drop, ap_raise, ap_gN, ap_gT, ap_gsN, ap_gsC, ap_app, Res.bind_ok, Res.bind_exc, Res.of_some, exOut_ok, exOut_exc, wipeE, Option.bind_some, List.length_cons, List.length_nil, List.getElem?_cons_zero, List.getElem?_cons_succ, List.set_cons_zero, List.set_cons_succ, List.map_cons, List.map_nil, add_ii, sub_ii, cmpI, negD, modD, ap_lenL, ap_lenT, intD, int1, int2, walkD, if_true, if_false, decide_eq_true_eq, Bool.false_eq_true, reduceIte, Nat.reduceAdd, Nat.reduceSub, List.replicate_succ, List.replicate_zero, List.cons_append, List.nil_append, lu, hs2, he, z2, hzz]
          rfl
        · intro x hx
          rcases List.mem_append.mp hx with hx | hx
          · exact r2 x hx
          · simp at hx; subst hx; exact ⟨by show p.1 < _; omega, by show k < _; omega⟩
        · constructor
          · intro z; simp at z
          · rintro ⟨_, z⟩; exact absurd c (z k (by omega))
      · rw [decide_eq_false c] at he
        refine ⟨_, [some (hD hs), some (.str (txS u)), some (.list (L'.map wN)), some (.int p.1), some (.str (txS p.2)), some (.int (k : Int))], rfl, ?_, L', _, rfl, by omega, r2, ?_⟩
        · simp only [ap_var, ap_c, ap_m1, ap_m2, ap_m3, ap_part, ap_nopart, ap_if, ap_isN, ap_notN, ap_list, ap_tup, ap_nil, ap_cons, ap_cb, ap_m1m, ap_chain, ap_isi, ap_mB, ap_asB, ap_and, ap_or, ap_not, ap_yes, ap_call, ap_lc, ap_noX, ap_iseq, ap_iown, ap_seq, th_nx, th_rt, th_exc, ap_skip, ap_set, ap_asg, ap_aug, ap_lm, ap_put, ap_oif, ap_ret, ap_drop, ap_raise, ap_gN, ap_gT, ap_gsN, ap_gsC, ap_app, Res.bind_ok, Res.bind_exc, Res.of_some, exOut_ok, exOut_exc, wipeE, Option.bind_some, List.length_cons, List.length_nil, List.getElem?_cons_zero, List.getElem?_cons_succ, List.set_cons_zero, List.set_cons_succ, List.map_cons, List.map_nil, add_ii, sub_ii, cmpI, negD, modD, ap_lenL, ap_lenT, intD, int1, int2, walkD, if_true, if_false, decide_eq_true_eq, Bool.false_eq_true, reduceIte, Nat.reduceAdd, Nat.reduceSub, List.replicate_succ, List.replicate_zero, List.cons_append, List.nil_append, lu, hs2, he]
        · rw [r3]
          constructor
          · rintro ⟨a, b⟩
            refine ⟨a, fun k' hk' => ?_⟩
            by_cases e : k' = k
            · subst e; exact c
            · exact b k' (by omega)
          · rintro ⟨a, b⟩
            exact ⟨a, fun k' hk' => b k' (by omega)⟩
    · rintro e ⟨L', j5, rfl, r1, r2, r3⟩
      rw [rng_len] at r1 r3
      refine ⟨_, rfl, L', _, rfl, by omega, r2, ?_⟩
      rw [r3]
      refine and_congr_right fun _ => ?_
      unfold DL.St
      constructor
      · rintro a ⟨k, k1, k2⟩; exact a k (by omega) k2
      · intro a k hk z; exact a ⟨k, by omega, z⟩
  · rintro e ⟨L, j3, j4, j5, rfl, q1, q2, q3⟩
    rw [List.length_map, List.take_length] at q3
    refine ⟨_, ret_ok (var_ok rfl), L, rfl, q2, ?_⟩
    rw [q3]
    unfold InH
    constructor
    · rintro a ⟨p, hp, z⟩; exact a p hp z
    · intro a p hp z; exact a ⟨p, hp, z⟩
end K48

namespace K48
open PySem PySem.Spec L2 DL
/-- a window that stands, behind which nothing stands -/
def winB (hs : Ho) (w : List Nat) (p : Wi) : Bool := decide (0 ≤ p.1 ∧ p.1 < p.2 ∧ p.2 < (w.length : Int)) && !inb hs ((w.drop p.1.toNat).take (p.2 + 1 - p.1).toNat)
def lenB (w : List Nat) (n m : Nat) : Bool := decide ((n : Int) = (m : Int) + (if w = [] then 0 else 1))
theorem len_ok {w : List Nat} {n m : Nat} : eqD (.int (n : Nat)) (.int ((m : Int) + (if (!decide (w = [])) = true then 1 else 0))) = some (.bool (lenB w n m)) := by
  refine eqi ?_
  unfold lenB
  by_cases h : w = []
  · rw [decide_eq_true h, if_pos h, if_neg (by decide)]
  · rw [decide_eq_false h, if_neg h]
    rfl
def chB (hs : Ho) (w : List Nat) (ps : List Pc) (ws : List Wi) : Bool := decide (runS (stp1 hs w) 0 ps = some w.length) && apB ws && !(ws.any fun p => !winB hs w p) && lenB w ps.length ws.length
theorem chain_ok {w : List Nat} {a b : Int} {x0 x2 x3 : Option D} (hw : w.length ≤ 1000) : (mChain3 leI ltI ltI (mC (.int 0)) (mVar 4) (mVar 5) (mCB lenD (aCons (mVar 1) aNil))) [x0, some (.str (txS w)), x2, x3, some (.int a), some (.int b)] = .ok (.bool (decide (0 ≤ a ∧ a < b ∧ b < (w.length : Int)))) := by
  have lw := ap_lenS (xs := w) (sz_ge (by omega))
  unfold mChain3
  by_cases h1 : (0 : Int) ≤ a
  · by_cases h2 : a < b
    · by_cases h3 : b < (w.length : Int)
      · rw [decide_eq_true ⟨h1, h2, h3⟩]
        simp only [ap_var, ap_c, ap_m1, ap_m2, ap_m3, ap_part, ap_nopart, ap_if, ap_isN, ap_notN, ap_list, ap_tup, ap_nil, ap_cons, ap_cb, ap_m1m, ap_chain, ap_isi, ap_mB, ap_asB, ap_and, ap_or, ap_not, ap_yes, ap_call, ap_lc, ap_noX, ap_iseq, ap_iown, ap_seq, th_nx, th_rt, th_exc, ap_skip, ap_set, ap_asg, ap_aug, ap_lm, ap_put, ap_oif, ap_ret, ap_drop, ap_raise, ap_gN, ap_gT, ap_gsN, ap_gsC, ap_app, Res.bind_ok, Res.bind_exc, Res.of_some, exOut_ok, exOut_exc, wipeE, Option.bind_some, List.length_cons, List.length_nil, List.getElem?_cons_zero, List.getElem?_cons_succ, List.set_cons_zero, List.set_cons_succ, List.map_cons, List.map_nil, add_ii, sub_ii, cmpI, negD, modD, ap_lenL, ap_lenT, intD, int1, int2, walkD, if_true, if_false, decide_eq_true_eq, Bool.false_eq_true, reduceIte, Nat.reduceAdd, Nat.reduceSub, List.replicate_succ, List.replicate_zero, List.cons_append, List.nil_append, lw, h1, h2, h3, decide_true]
      · rw [decide_eq_false (fun z => h3 z.2.2)]
        simp only [ap_var, ap_c, ap_m1, ap_m2, ap_m3, ap_part, ap_nopart, ap_if, ap_isN, ap_notN, ap_list, ap_tup, ap_nil, ap_cons, ap_cb, ap_m1m, ap_chain, ap_isi, ap_mB, ap_asB, ap_and, ap_or, ap_not, ap_yes, ap_call, ap_lc, ap_noX, ap_iseq, ap_iown, ap_seq, th_nx, th_rt, th_exc, ap_skip, ap_set, ap_asg, ap_aug, ap_lm, ap_put, ap_oif, ap_ret, ap_drop, ap_raise, ap_gN, ap_gT, ap_gsN, ap_gsC, ap_app, Res.bind_ok, Res.bind_exc, Res.of_some, exOut_ok, exOut_exc, wipeE, Option.bind_some, List.length_cons, List.length_nil, List.getElem?_cons_zero, List.getElem?_cons_succ, List.set_cons_zero, List.set_cons_succ, List.map_cons, List.map_nil, add_ii, sub_ii, cmpI, negD, modD, ap_lenL, ap_lenT, intD, int1, int2, walkD, if_true, if_false, decide_eq_true_eq, Bool.false_eq_true, reduceIte, Nat.reduceAdd, Nat.reduceSub, List.replicate_succ, List.replicate_zero, List.cons_append, List.nil_append, lw, h1, h2, h3, decide_true, decide_false]
    · rw [decide_eq_false (fun z => h2 z.2.1)]
      simp only [ap_var, ap_c, ap_m1, ap_m2, ap_m3, ap_part, ap_nopart, ap_if, ap_isN, ap_notN, ap_list, ap_tup, ap_nil, ap_cons, ap_cb, ap_m1m, ap_chain, ap_isi, ap_mB, ap_asB, ap_and, ap_or, ap_not, ap_yes, ap_call, ap_lc, ap_noX, ap_iseq, ap_iown, ap_seq, th_nx, th_rt, th_exc, ap_skip, ap_set, ap_asg, ap_aug, ap_lm, ap_put, ap_oif, ap_ret, ap_drop, ap_raise, ap_gN, ap_gT, ap_gsN, ap_gsC, ap_app, Res.bind_ok, Res.bind_exc, Res.of_some, exOut_ok, exOut_exc, wipeE, Option.bind_some, List.length_cons, List.length_nil, List.getElem?_cons_zero, List.getElem?_cons_succ, List.set_cons_zero, List.set_cons_succ, List.map_cons, List.map_nil, add_ii, sub_ii, cmpI, negD, modD, ap_lenL, ap_lenT, intD, int1, int2, walkD, if_true, if_false, decide_eq_true_eq, Bool.false_eq_true, reduceIte, Nat.reduceAdd, Nat.reduceSub, List.replicate_succ, List.replicate_zero, List.cons_append, List.nil_append, h1, h2, decide_true, decide_false]
  · rw [decide_eq_false (fun z => h1 z.1)]
    simp only [ap_var, ap_c, ap_m1, ap_m2, ap_m3, ap_part, ap_nopart, ap_if, ap_isN, ap_notN, ap_list, ap_tup, ap_nil, ap_cons, ap_cb, ap_m1m, ap_chain, ap_isi, ap_mB, ap_asB, ap_and, ap_or, ap_not, ap_yes, ap_call, ap_lc, ap_noX, ap_iseq, ap_iown, ap_seq, th_nx, th_rt, th_exc, ap_skip, ap_set, ap_asg, ap_aug, ap_lm, ap_put, ap_oif, ap_ret, ap_drop, ap_raise, ap_gN, ap_gT, ap_gsN, ap_gsC, ap_app, Res.bind_ok, Res.bind_exc, Res.of_some, exOut_ok, exOut_exc, wipeE, Option.bind_some, List.length_cons, List.length_nil, List.getElem?_cons_zero, List.getElem?_cons_succ, List.set_cons_zero, List.set_cons_succ, List.map_cons, List.map_nil, add_ii, sub_ii, cmpI, negD, modD, ap_lenL, ap_lenT, intD, int1, int2, walkD, if_true, if_false, decide_eq_true_eq, Bool.false_eq_true, reduceIte, Nat.reduceAdd, Nat.reduceSub, List.replicate_succ, List.replicate_zero, List.cons_append, List.nil_append, h1, decide_false]
theorem or_t {nb nc : Env' → Res Bool} {env : Env'} (h : nb env = .ok true) : bOr nb nc env = .ok true := by
  rw [ap_or, h]; rfl
theorem oif_t {nc : Env' → Res Bool} {o1 o2 : Env' → Out} {env : Env'} (h : nc env = .ok true) : oIf nc o1 o2 env = o1 env := by
  rw [ap_oif, h]; rfl
theorem check_ok {hs : Ho} (hb : HB hs) (ha : hs.Pairwise fun a b => a.1 < b.1) {w : List Nat} (hw : w.length ≤ 900) {ps : List Pc} {ws : List Wi} (hws : ws.length ≤ 1000) : m_check_word [hD hs, .str (txS w), .list (ps.map pcD), .list (ws.map wD)] = .ok (.bool (chB hs w ps ws)) := by
  refine run_rt ?_
  show o_check_word [some (hD hs), some (.str (txS w)), some (.list (ps.map pcD)), some (.list (ws.map wD)), none, none] = _
  have lw := ap_lenS (xs := w) (sz_ge (by omega))
  have hp := pieces_of_ok hb ha (w := w) (by omega) (ps := ps)
  have hap := apart_ok ws
  have e1 := call_ok (mf := m_are_pieces_of) (cons_ok (m := mVar 0) (env := [some (hD hs), some (.str (txS w)), some (.list (ps.map pcD)), some (.list (ws.map wD)), none, none]) (var_ok rfl) (cons_ok (m := mVar 1) (var_ok rfl) (cons_ok (m := mVar 2) (var_ok rfl) ap_nil))) hp
  have hlc : (mLc (iSeq (mVar 3)) (gT' 2 (gsC (gN 4) (gsC (gN 5) gsN))) bYes (mTup (aCons (mC (.int 0)) (aCons (mVar 4) (aCons (mVar 5) aNil)))) [4, 5]) [some (hD hs), some (.str (txS w)), some (.list (ps.map pcD)), some (.list (ws.map wD)), none, none] = .ok (.list (ws.map triD)) := by
    have h1 := lcG_map (g := gT' 2 (gsC (gN 4) (gsC (gN 5) gsN))) (nc := bYes) (m := mTup (aCons (mC (.int 0)) (aCons (mVar 4) (aCons (mVar 5) aNil)))) (env := [some (hD hs), some (.str (txS w)), some (.list (ps.map pcD)), some (.list (ws.map wD)), none, none]) wD (fun _ => true) triD ws (fun p _ => ⟨_, rfl, rfl, fun _ => tup_ok (cons_ok ap_c (cons_ok (var_ok rfl) (cons_ok (var_ok rfl) ap_nil))) (by show 3 ≤ 16777216; omega)⟩)
    rw [List.filter_eq_self.mpr (fun _ _ => rfl)] at h1
    have h2 : iSeq (mVar 3) [some (hD hs), some (.str (txS w)), some (.list (ps.map pcD)), some (.list (ws.map wD)), none, none] = .ok (ws.map wD) := rfl
    have h3 : wipeE [some (hD hs), some (.str (txS w)), some (.list (ps.map pcD)), some (.list (ws.map wD)), none, none] [4, 5] = [some (hD hs), some (.str (txS w)), some (.list (ps.map pcD)), some (.list (ws.map wD)), none, none] := rfl
    rw [ap_lc, h2, Res.bind_ok, h3, h1, ap_noX, Res.bind_ok, if_pos (sz_ge (by simp; omega))]
  have e2 := call_ok (mf := m_are_apart) (cons_ok hlc ap_nil) hap
  have e3 := not_ok (b_ok e1)
  have e4 := not_ok (b_ok e2)
  unfold o_check_word chB
  by_cases c1 : runS (stp1 hs w) 0 ps = some w.length
  · rw [decide_eq_true c1] at e3 ⊢
    cases c2 : apB ws with
    | true =>
      rw [c2] at e4
      refine seq_nx (oif_f (or_f e3 e4)) ?_
      refine for_dec (stp := fun (_ : Unit) (p : Wi) => if (!winB hs w p) = true then none else some ()) (fD := wD) (R := fun _ _ env => ∃ j4 j5, env = [some (hD hs), some (.str (txS w)), some (.list (ps.map pcD)), some (.list (ws.map wD)), j4, j5]) ws () rfl ⟨_, _, rfl⟩ ?_ ?_ ?_
      · rintro i s p env hp ⟨j4, j5, rfl⟩
        refine ⟨[some (hD hs), some (.str (txS w)), some (.list (ps.map pcD)), some (.list (ws.map wD)), some (.int p.1), some (.int p.2)], rfl, ?_⟩
        show ((if (!winB hs w p) = true then none else some ()) = none ∧ _) ∨ _
        have hch := chain_ok (w := w) (a := p.1) (b := p.2) (x0 := some (hD hs)) (x2 := some (.list (ps.map pcD))) (x3 := some (.list (ws.map wD))) (by omega)
        unfold winB
        by_cases g : 0 ≤ p.1 ∧ p.1 < p.2 ∧ p.2 < (w.length : Int)
        · rw [decide_eq_true g] at hch ⊢
          rw [Bool.true_and, Bool.not_not]
          obtain ⟨u, hu⟩ : ∃ u, u = (w.drop p.1.toNat).take (p.2 + 1 - p.1).toNat := ⟨_, rfl⟩
          have hul : u.length ≤ 1000 := by rw [hu, List.length_take, List.length_drop]; omega
          have hsl := sl_both (t := w) (a := p.1.toNat) (b := (p.2 + 1).toNat) (sz_ge (by omega)) (by omega)
          rw [show (p.2 + 1).toNat - p.1.toNat = (p.2 + 1 - p.1).toNat by omega, ← hu, show ((p.1.toNat : Nat) : Int) = p.1 by omega, show (((p.2 + 1).toNat : Nat) : Int) = p.2 + 1 by omega] at hsl
          rw [← hu]
          obtain ⟨L, hL, hL2, hL3⟩ := places_ok hb hul
          have f1 := m2_ok (f := addD) (ma := mVar 5) (mb := mC (.int 1)) (env := [some (hD hs), some (.str (txS w)), some (.list (ps.map pcD)), some (.list (ws.map wD)), some (.int p.1), some (.int p.2)]) (var_ok rfl) ap_c add_ii
          have f2 := m3_ok (g := slD) (ma := mVar 1) (ml := mPart (mVar 4)) (var_ok rfl) (part_ok (var_ok rfl)) (part_ok f1) hsl
          have f3 := call_ok (mf := m_places) (cons_ok (m := mVar 0) (var_ok rfl) (cons_ok f2 ap_nil)) hL
          have f4 : (mList aNil) [some (hD hs), some (.str (txS w)), some (.list (ps.map pcD)), some (.list (ws.map wD)), some (.int p.1), some (.int p.2)] = .ok (.list []) := by
            rw [ap_list, ap_nil, Res.bind_ok, if_pos (sz_ge (by simp))]
          have f5 := b_ok (m2_ok (f := neD) f3 f4 (neD_nil (shaped_wN hL2)))
          have f6 := not_ok (b_ok hch)
          have hLe : (!(L.map wN).isEmpty) = inb hs u := by
            cases hi : inb hs u with
            | true =>
              have : ¬ L = [] := fun z => (hL3.mp z) ((inb_iff hs u).mp hi)
              cases L with
              | nil => exact absurd rfl this
              | cons _ _ => rfl
            | false =>
              have : L = [] := hL3.mpr fun z => by rw [(inb_iff hs u).mpr z] at hi; cases hi
              rw [this]; rfl
          rw [hLe] at f5
          have f7 := or_f f6 f5
          cases hi : inb hs u with
          | true =>
            rw [hi] at f7
            exact .inl ⟨rfl, by rw [ap_seq, oif_t f7]; rfl⟩
          | false =>
            rw [hi] at f7
            exact .inr ⟨(), [some (hD hs), some (.str (txS w)), some (.list (ps.map pcD)), some (.list (ws.map wD)), some (.int p.1), some (.int p.2)], rfl, seq_nx (oif_f f7) rfl, _, _, rfl⟩
        · rw [decide_eq_false g] at hch ⊢
          have f6 := not_ok (b_ok hch)
          exact .inl ⟨rfl, by rw [ap_seq, oif_t (or_t f6)]; rfl⟩
      · intro z
        rw [runS_all (fun p => !winB hs w p)] at z
        cases h : ws.any fun p => !winB hs w p with
        | true => rfl
        | false => rw [h] at z; cases z
      · rintro s env z ⟨j4, j5, rfl⟩
        rw [runS_all (fun p => !winB hs w p)] at z
        cases h : ws.any fun p => !winB hs w p with
        | true => rw [h] at z; cases z
        | false =>
          have hn := ne_txt w []
          rw [← s_e] at hn
          have hl := len_ok (w := w) (n := ps.length) (m := ws.length)
          generalize lenB w ps.length ws.length = B at hl
          simp only [ap_ret, ap_m2, ap_cb, ap_cons, ap_nil, ap_var, ap_c, Res.bind_ok, Res.of_some, List.getElem?_cons_zero, List.getElem?_cons_succ, ap_lenL, List.length_map, hn, intD, add_ii, hl, exOut_ok, Bool.true_and, Bool.not_false]
    | false =>
      rw [c2] at e4
      rw [ap_seq, oif_t (or_f e3 e4)]
      rfl
  · rw [decide_eq_false c1] at e3 ⊢
    rw [ap_seq, oif_t (or_t e3)]
    rfl
end K48

namespace K48
open PySem PySem.Spec L2 DL
theorem chainG {env : Env'} {ma mb mc : Env' → Res D} {a b : Int} {n : Nat} (ha : ma env = .ok (.int a)) (hb : mb env = .ok (.int b)) (hc : mc env = .ok (.int (n : Nat))) : mChain3 leI ltI ltI (mC (.int 0)) ma mb mc env = .ok (.bool (decide (0 ≤ a ∧ a < b ∧ b < (n : Int)))) := by
  unfold mChain3
  by_cases h1 : (0 : Int) ≤ a
  · by_cases h2 : a < b
    · by_cases h3 : b < (n : Int)
      · rw [decide_eq_true ⟨h1, h2, h3⟩]
        simp only [ap_var, ap_c, ap_m1, ap_m2, ap_m3, ap_part, ap_nopart, ap_if, ap_isN, ap_notN, ap_list, ap_tup, ap_nil, ap_cons, ap_cb, ap_m1m, ap_chain, ap_isi, ap_mB, ap_asB, ap_and, ap_or, ap_not, ap_yes, ap_call, ap_lc, ap_noX, ap_iseq, ap_iown, ap_seq, th_nx, th_rt, th_exc, ap_skip, ap_set, ap_asg, ap_aug, ap_lm, ap_put, ap_oif, ap_ret, ap_drop, ap_raise, ap_gN, ap_gT, ap_gsN, ap_gsC, ap_app, Res.bind_ok, Res.bind_exc, Res.of_some, exOut_ok, exOut_exc, wipeE, Option.bind_some, List.length_cons, List.length_nil, List.getElem?_cons_zero, List.getElem?_cons_succ, List.set_cons_zero, List.set_cons_succ, List.map_cons, List.map_nil, add_ii, sub_ii, cmpI, negD, modD, ap_lenL, ap_lenT, intD, int1, int2, walkD, if_true, if_false, decide_eq_true_eq, Bool.false_eq_true, reduceIte, Nat.reduceAdd, Nat.reduceSub, List.replicate_succ, List.replicate_zero, List.cons_append, List.nil_append, ha, hb, hc, h1, h2, h3, decide_true]
      · rw [decide_eq_false (fun z => h3 z.2.2)]
        simp only [ap_var, ap_c, ap_m1, ap_m2, ap_m3, ap_part, ap_nopart, ap_if, ap_isN, ap_notN, ap_list, ap_tup, ap_nil, ap_cons, ap_cb, ap_m1m, ap_chain, ap_isi, ap_mB, ap_asB, ap_and, ap_or, ap_not, ap_yes, ap_call, ap_lc, ap_noX, ap_iseq, ap_iown, ap_seq, th_nx, th_rt, th_exc, ap_skip, ap_set, ap_asg, ap_aug, ap_lm, ap_put, ap_oif, ap_ret, ap_drop, ap_raise, ap_gN, ap_gT, ap_gsN, ap_gsC, ap_app, Res.bind_ok, Res.bind_exc, Res.of_some, exOut_ok, exOut_exc, wipeE, Option.bind_some, List.length_cons, List.length_nil, List.getElem?_cons_zero, List.getElem?_cons_succ, List.set_cons_zero, List.set_cons_succ, List.map_cons, List.map_nil, add_ii, sub_ii, cmpI, negD, modD, ap_lenL, ap_lenT, intD, int1, int2, walkD, if_true, if_false, decide_eq_true_eq, Bool.false_eq_true, reduceIte, Nat.reduceAdd, Nat.reduceSub, List.replicate_succ, List.replicate_zero, List.cons_append, List.nil_append, ha, hb, hc, h1, h2, h3, decide_true, decide_false]
    · rw [decide_eq_false (fun z => h2 z.2.1)]
      simp only [ap_var, ap_c, ap_m1, ap_m2, ap_m3, ap_part, ap_nopart, ap_if, ap_isN, ap_notN, ap_list, ap_tup, ap_nil, ap_cons, ap_cb, ap_m1m, ap_chain, ap_isi, ap_mB, ap_asB, ap_and, ap_or, ap_not, ap_yes, ap_call, ap_lc, ap_noX, ap_iseq, ap_iown, ap_seq, th_nx, th_rt, th_exc, ap_skip, ap_set, ap_asg, ap_aug, ap_lm, ap_put, ap_oif, ap_ret, ap_drop, ap_raise, ap_gN, ap_gT, ap_gsN, ap_gsC, ap_app, Res.bind_ok, Res.bind_exc, Res.of_some, exOut_ok, exOut_exc, wipeE, Option.bind_some, List.length_cons, List.length_nil, List.getElem?_cons_zero, List.getElem?_cons_succ, List.set_cons_zero, List.set_cons_succ, List.map_cons, List.map_nil, add_ii, sub_ii, cmpI, negD, modD, ap_lenL, ap_lenT, intD, int1, int2, walkD, if_true, if_false, decide_eq_true_eq, Bool.false_eq_true, reduceIte, Nat.reduceAdd, Nat.reduceSub, List.replicate_succ, List.replicate_zero, List.cons_append, List.nil_append, ha, hb, h1, h2, decide_true, decide_false]
  · rw [decide_eq_false (fun z => h1 z.1)]
    simp only [ap_var, ap_c, ap_m1, ap_m2, ap_m3, ap_part, ap_nopart, ap_if, ap_isN, ap_notN, ap_list, ap_tup, ap_nil, ap_cons, ap_cb, ap_m1m, ap_chain, ap_isi, ap_mB, ap_asB, ap_and, ap_or, ap_not, ap_yes, ap_call, ap_lc, ap_noX, ap_iseq, ap_iown, ap_seq, th_nx, th_rt, th_exc, ap_skip, ap_set, ap_asg, ap_aug, ap_lm, ap_put, ap_oif, ap_ret, ap_drop, ap_raise, ap_gN, ap_gT, ap_gsN, ap_gsC, ap_app, Res.bind_ok, Res.bind_exc, Res.of_some, exOut_ok, exOut_exc, wipeE, Option.bind_some, List.length_cons, List.length_nil, List.getElem?_cons_zero, List.getElem?_cons_succ, List.set_cons_zero, List.set_cons_succ, List.map_cons, List.map_nil, add_ii, sub_ii, cmpI, negD, modD, ap_lenL, ap_lenT, intD, int1, int2, walkD, if_true, if_false, decide_eq_true_eq, Bool.false_eq_true, reduceIte, Nat.reduceAdd, Nat.reduceSub, List.replicate_succ, List.replicate_zero, List.cons_append, List.nil_append, ha, h1, decide_false]
def badW (hs : Ho) (w : List Nat) (ws : List Wi) (k : Nat) : Bool := !winB hs w (wat ws k) || (decide (0 < k) && badP ws k)
def duB (hs : Ho) (w : List Nat) (ps : List Pc) (ws : List Wi) : Bool := decide (runS (stp2 hs) [] ps = some w) && !((List.range ws.length).any fun k => badW hs w ws k) && lenB w ps.length ws.length
theorem du_ch (hs : Ho) (w : List Nat) (ps : List Pc) (ws : List Wi) : duB hs w ps ws = chB hs w ps ws := by
  unfold duB chB
  have e1 : decide (runS (stp2 hs) [] ps = some w) = decide (runS (stp1 hs w) 0 ps = some w.length) := by
    have := run_iff hs w ps 0 (Nat.zero_le _)
    rw [List.take_zero] at this
    exact decide_eq_decide.mpr this.symm
  have e2 : (!((List.range ws.length).any fun k => badW hs w ws k)) = (apB ws && !(ws.any fun p => !winB hs w p)) := by
    unfold apB
    rw [← Bool.not_or]
    congr 1
    apply Bool.eq_iff_iff.mpr
    rw [Bool.or_eq_true, List.any_eq_true, List.any_eq_true, List.any_eq_true]
    constructor
    · rintro ⟨k, hk, z⟩
      rw [List.mem_range] at hk
      unfold badW at z
      rcases Bool.or_eq_true_iff.mp z with z | z
      · exact .inr ⟨wat ws k, List.mem_of_getElem? (wat_get hk), z⟩
      · rw [Bool.and_eq_true] at z
        have h0 := of_decide_eq_true z.1
        exact .inl ⟨k - 1, by rw [List.mem_range]; omega, by rw [show k - 1 + 1 = k by omega]; exact z.2⟩
    · rintro (⟨k, hk, z⟩ | ⟨p, hp, z⟩)
      · rw [List.mem_range] at hk
        refine ⟨k + 1, by rw [List.mem_range]; omega, ?_⟩
        unfold badW
        rw [z, decide_eq_true (by omega)]
        simp
      · obtain ⟨k, hk⟩ := List.getElem?_of_mem hp
        have hl := lt_of_get hk
        refine ⟨k, by rw [List.mem_range]; exact hl, ?_⟩
        have e : wat ws k = p := by
          rw [wat_get hl] at hk
          injection hk
        unfold badW
        rw [e, z]
        simp
  rw [e1, e2]
  simp only [Bool.and_assoc]
theorem filter_look (n : Int) : ∀ hs : Ho, (hs.filter (fun p => decide ((p.1 : Int) = n)) = [] ∧ look hs n = none) ∨ ∃ p r, hs.filter (fun p => decide ((p.1 : Int) = n)) = p :: r ∧ look hs n = some p.2
  | [] => .inl ⟨rfl, rfl⟩
  | q :: hs => by
    by_cases h : (q.1 : Int) = n
    · refine .inr ⟨q, hs.filter (fun p => decide ((p.1 : Int) = n)), by rw [List.filter_cons, decide_eq_true h, if_pos rfl], ?_⟩
      unfold look
      rw [List.find?_cons, decide_eq_true h]
      rfl
    · have e : look (q :: hs) n = look hs n := by
        unfold look
        rw [List.find?_cons, decide_eq_false h]
      rw [List.filter_cons, decide_eq_false h, if_neg (by decide), e]
      exact filter_look n hs
theorem wD_ix {ws : List Wi} {k : Nat} {i : Int} (hi : i = k) (h : k < ws.length) : ixD (.list (ws.map wD)) (.int i) = some (wD (wat ws k)) := ix_int hi (by rw [List.getElem?_map, wat_get h]; rfl)
theorem wD1 (p : Wi) : ixD (wD p) (.int 1) = some (.int p.2) := ix_tup (n := 1) rfl
theorem due_ok {hs : Ho} (hb : HB hs) (hlo : ∀ p ∈ hs, Lo p.2) {w : List Nat} (hw : w.length ≤ 900) {ps : List Pc} (hps : ps.length ≤ 1000) {ws : List Wi} (hws : ws.length ≤ 1000) : m__law_due [hD hs, .str (txS w), .list (ps.map pcD), .list (ws.map wD)] = .ok (.bool (duB hs w ps ws)) := by
  refine run_rt ?_
  show o__law_due [some (hD hs), some (.str (txS w)), some (.list (ps.map pcD)), some (.list (ws.map wD)), none, none, none, none, none, none, none, none, none] = _
  have lw := ap_lenS (xs := w) (sz_ge (by omega))
  have z0 : 0 ≤ sizeLine := sz_ge (by omega)
  unfold o__law_due duB
  refine seq_nx (e := [some (hD hs), some (.str (txS w)), some (.list (ps.map pcD)), some (.list (ws.map wD)), some (.str (txS [])), none, none, none, none, none, none, none, none]) ?_ ?_
  · rw [s_e]
    simp only [ap_var, ap_c, ap_m1, ap_m2, ap_m3, ap_part, ap_nopart, ap_if, ap_isN, ap_notN, ap_list, ap_tup, ap_nil, ap_cons, ap_cb, ap_m1m, ap_chain, ap_isi, ap_mB, ap_asB, ap_and, ap_or, ap_not, ap_yes, ap_call, ap_lc, ap_noX, ap_iseq, ap_iown, ap_seq, th_nx, th_rt, th_exc, ap_skip, ap_set, ap_asg, ap_aug, ap_lm, ap_put, ap_oif, ap_ret, ap_drop, ap_raise, ap_gN, ap_gT, ap_gsN, ap_gsC, ap_app, Res.bind_ok, Res.bind_exc, Res.of_some, exOut_ok, exOut_exc, wipeE, Option.bind_some, List.length_cons, List.length_nil, List.getElem?_cons_zero, List.getElem?_cons_succ, List.set_cons_zero, List.set_cons_succ, List.map_cons, List.map_nil, add_ii, sub_ii, cmpI, negD, modD, ap_lenL, ap_lenT, intD, int1, int2, walkD, if_true, if_false, decide_eq_true_eq, Bool.false_eq_true, reduceIte, Nat.reduceAdd, Nat.reduceSub, List.replicate_succ, List.replicate_zero, List.cons_append, List.nil_append]
  refine for_dec (stp := stp2 hs) (fD := pcD) (R := fun i m env => ∃ j5 j6 j7 j10 j11, env = [some (hD hs), some (.str (txS w)), some (.list (ps.map pcD)), some (.list (ws.map wD)), some (.str (txS m)), j5, j6, j7, none, none, j10, j11, none] ∧ m.length ≤ 100 * i) ps [] rfl ⟨_, _, _, _, _, rfl, by simp⟩ ?_ ?_ ?_
  · rintro i m p env hp ⟨j5, j6, j7, j10, j11, rfl, hm⟩
    have hi := lt_of_get hp
    refine ⟨[some (hD hs), some (.str (txS w)), some (.list (ps.map pcD)), some (.list (ws.map wD)), some (.str (txS m)), some (pcD p), j6, j7, none, none, j10, j11, none], rfl, ?_⟩
    cases p with
    | l c =>
      have h0 := pc_l0 c
      have h1 := pc_l1 c
      have ha : addD (.str (txS m)) (.str (txS [c])) = some (.str (txS (m ++ [c]))) := by
        rw [add_str (sz_ge (by rw [txS_length, txS_length]; simp; omega)), txS_append]
      refine .inr ⟨m ++ [c], [some (hD hs), some (.str (txS w)), some (.list (ps.map pcD)), some (.list (ws.map wD)), some (.str (txS (m ++ [c]))), some (pcD (.l c)), j6, j7, none, none, j10, j11, none], rfl, ?_, _, _, _, _, _, rfl, by simp; omega⟩
      generalize pcD (.l c) = P at h0 h1
      simp only [ap_var, ap_c, ap_m1, ap_m2, ap_m3, ap_part, ap_nopart, ap_if, ap_isN, ap_notN, ap_list, ap_tup, ap_nil, ap_cons, ap_cb, ap_m1m, ap_chain, ap_isi, ap_mB, ap_asB, ap_and, ap_or, ap_not, ap_yes, ap_call, ap_lc, ap_noX, ap_iseq, ap_iown, ap_seq, th_nx, th_rt, th_exc, ap_skip, ap_set, ap_asg, ap_aug, ap_lm, ap_put, ap_oif, ap_ret, ap_drop, ap_raise, ap_gN, ap_gT, ap_gsN, ap_gsC, ap_app, Res.bind_ok, Res.bind_exc, Res.of_some, exOut_ok, exOut_exc, wipeE, Option.bind_some, List.length_cons, List.length_nil, List.getElem?_cons_zero, List.getElem?_cons_succ, List.set_cons_zero, List.set_cons_succ, List.map_cons, List.map_nil, add_ii, sub_ii, cmpI, negD, modD, ap_lenL, ap_lenT, intD, int1, int2, walkD, if_true, if_false, decide_eq_true_eq, Bool.false_eq_true, reduceIte, Nat.reduceAdd, Nat.reduceSub, List.replicate_succ, List.replicate_zero, List.cons_append, List.nil_append, h0, h1, str_pl, ha]
    | c n k s =>
      have h0 := pc_c0 n k s
      have hsl : slD (pcD (.c n k s)) (some 1) none = some (.tuple [.int n, .int k, .int s]) := rfl
      obtain ⟨F, hF⟩ : ∃ F, F = hs.filter (fun p => decide ((p.1 : Int) = n)) := ⟨_, rfl⟩
      have hFm : ∀ p ∈ F, p ∈ hs := fun p hp => by rw [hF] at hp; exact (List.mem_filter.mp hp).1
      have hlc : ∀ j7 : Option D, (mLc (iSeq (mVar 0)) (gT' 2 (gsC (gN 12) (gsC (gN 7) gsN))) (mB (m2 eqD (mVar 12) (mVar 10))) (mVar 7) [12, 7]) [some (hD hs), some (.str (txS w)), some (.list (ps.map pcD)), some (.list (ws.map wD)), some (.str (txS m)), some (pcD (.c n k s)), some (.int k), j7, none, none, some (.int n), some (.int s), none] = .ok (.list (F.map fun p => .str (txS p.2))) := by
        intro j7
        have h1 := lcG_map (g := gT' 2 (gsC (gN 12) (gsC (gN 7) gsN))) (nc := mB (m2 eqD (mVar 12) (mVar 10))) (m := mVar 7) (env := [some (hD hs), some (.str (txS w)), some (.list (ps.map pcD)), some (.list (ws.map wD)), some (.str (txS m)), some (pcD (.c n k s)), some (.int k), none, none, none, some (.int n), some (.int s), none]) enD (fun p => decide ((p.1 : Int) = n)) (fun p => .str (txS p.2)) hs (fun p _ => ⟨_, rfl, b_ok (m2_ok (f := eqD) (var_ok rfl) (var_ok rfl) (eqi rfl)), fun _ => var_ok rfl⟩)
        rw [← hF] at h1
        have h2 : iSeq (mVar 0) [some (hD hs), some (.str (txS w)), some (.list (ps.map pcD)), some (.list (ws.map wD)), some (.str (txS m)), some (pcD (.c n k s)), some (.int k), j7, none, none, some (.int n), some (.int s), none] = .ok (hs.map enD) := rfl
        have h3 : wipeE [some (hD hs), some (.str (txS w)), some (.list (ps.map pcD)), some (.list (ws.map wD)), some (.str (txS m)), some (pcD (.c n k s)), some (.int k), j7, none, none, some (.int n), some (.int s), none] [12, 7] = [some (hD hs), some (.str (txS w)), some (.list (ps.map pcD)), some (.list (ws.map wD)), some (.str (txS m)), some (pcD (.c n k s)), some (.int k), none, none, none, some (.int n), some (.int s), none] := rfl
        have hl : F.length ≤ 100 := by
          rw [hF]
          exact Nat.le_trans (List.length_filter_le _ _) hb.1
        rw [ap_lc, h2, Res.bind_ok, h3, h1, ap_noX, Res.bind_ok, if_pos (sz_ge (by simp; omega))]
      have hsh : SeqAt.shaped (.list (F.map fun p => PyData.str (txS p.2))) = true := by
        refine (Sm.list (w := 100) (dp := 0) (ds := F.map fun p => PyData.str (txS p.2)) ?_).shaped (by omega)
        intro d hd
        obtain ⟨p, hp, rfl⟩ := List.mem_map.mp hd
        exact (Sm.str (strOk_low (hlo p (hFm p hp)))).mono (by rw [txS_length]; exact hb.2.1 p (hFm p hp)) (by omega)
      have hnil := eqD_nil hsh
      -- up to the list of texts
      have hfirst : ∀ o2, oSeq (oAsg (m3 slD (mVar 5) (mPart (mC (.int 1))) mNoPart) (gT' 3 (gsC (gN 10) (gsC (gN 6) (gsC (gN 11) gsN))))) (oSeq (oSet 7 (mLc (iSeq (mVar 0)) (gT' 2 (gsC (gN 12) (gsC (gN 7) gsN))) (mB (m2 eqD (mVar 12) (mVar 10))) (mVar 7) [12, 7])) o2) [some (hD hs), some (.str (txS w)), some (.list (ps.map pcD)), some (.list (ws.map wD)), some (.str (txS m)), some (pcD (.c n k s)), j6, j7, none, none, j10, j11, none] = o2 [some (hD hs), some (.str (txS w)), some (.list (ps.map pcD)), some (.list (ws.map wD)), some (.str (txS m)), some (pcD (.c n k s)), some (.int k), some (.list (F.map fun p => .str (txS p.2))), none, none, some (.int n), some (.int s), none] := fun o2 => by
        refine seq_nx (e := [some (hD hs), some (.str (txS w)), some (.list (ps.map pcD)), some (.list (ws.map wD)), some (.str (txS m)), some (pcD (.c n k s)), some (.int k), j7, none, none, some (.int n), some (.int s), none]) ?_ ?_
        · generalize pcD (.c n k s) = P at hsl
          simp only [ap_var, ap_c, ap_m1, ap_m2, ap_m3, ap_part, ap_nopart, ap_if, ap_isN, ap_notN, ap_list, ap_tup, ap_nil, ap_cons, ap_cb, ap_m1m, ap_chain, ap_isi, ap_mB, ap_asB, ap_and, ap_or, ap_not, ap_yes, ap_call, ap_lc, ap_noX, ap_iseq, ap_iown, ap_seq, th_nx, th_rt, th_exc, ap_skip, ap_set, ap_asg, ap_aug, ap_lm, ap_put, ap_oif, ap_ret, ap_drop, ap_raise, ap_gN, ap_gT, ap_gsN, ap_gsC, ap_app, Res.bind_ok, Res.bind_exc, Res.of_some, exOut_ok, exOut_exc, wipeE, Option.bind_some, List.length_cons, List.length_nil, List.getElem?_cons_zero, List.getElem?_cons_succ, List.set_cons_zero, List.set_cons_succ, List.map_cons, List.map_nil, add_ii, sub_ii, cmpI, negD, modD, ap_lenL, ap_lenT, intD, int1, int2, walkD, if_true, if_false, decide_eq_true_eq, Bool.false_eq_true, reduceIte, Nat.reduceAdd, Nat.reduceSub, List.replicate_succ, List.replicate_zero, List.cons_append, List.nil_append, hsl]
        exact seq_nx ((set_ok (hlc j7)).trans rfl) rfl
      rw [ap_seq, ap_oif]
      simp only [ap_mB, ap_asB, ap_m2, ap_var, ap_c, Res.bind_ok, Res.of_some, List.getElem?_cons_zero, List.getElem?_cons_succ, h0, str_cl, exOut_ok, Bool.false_eq_true, if_false]
      rw [hfirst]
      rcases filter_look n hs with ⟨f1, f2⟩ | ⟨p, r, f1, f2⟩
      · rw [← hF] at f1
        refine .inl ⟨by unfold stp2; rw [pcT_c, f2]; rfl, ?_⟩
        have hem : (F.map fun p => PyData.str (txS p.2)).isEmpty = true := by rw [f1]; rfl
        rw [hem] at hnil
        generalize (F.map fun p => PyData.str (txS p.2)) = FL at hnil
        rw [ap_seq]
        simp only [ap_var, ap_c, ap_m1, ap_m2, ap_m3, ap_part, ap_nopart, ap_if, ap_isN, ap_notN, ap_list, ap_tup, ap_nil, ap_cons, ap_cb, ap_m1m, ap_chain, ap_isi, ap_mB, ap_asB, ap_and, ap_or, ap_not, ap_yes, ap_call, ap_lc, ap_noX, ap_iseq, ap_iown, ap_seq, th_nx, th_rt, th_exc, ap_skip, ap_set, ap_asg, ap_aug, ap_lm, ap_put, ap_oif, ap_ret, ap_drop, ap_raise, ap_gN, ap_gT, ap_gsN, ap_gsC, ap_app, Res.bind_ok, Res.bind_exc, Res.of_some, exOut_ok, exOut_exc, wipeE, Option.bind_some, List.length_cons, List.length_nil, List.getElem?_cons_zero, List.getElem?_cons_succ, List.set_cons_zero, List.set_cons_succ, List.map_cons, List.map_nil, add_ii, sub_ii, cmpI, negD, modD, ap_lenL, ap_lenT, intD, int1, int2, walkD, if_true, if_false, decide_eq_true_eq, Bool.false_eq_true, reduceIte, Nat.reduceAdd, Nat.reduceSub, List.replicate_succ, List.replicate_zero, List.cons_append, List.nil_append, z0, hnil]
      · rw [← hF] at f1
        have hpm : p ∈ hs := hFm p (by rw [f1]; simp)
        have hpl := hb.2.1 p hpm
        have lp := ap_lenS (xs := p.2) (sz_ge (by omega))
        have hix : ixD (.list (F.map fun p => PyData.str (txS p.2))) (.int 0) = some (.str (txS p.2)) := by rw [f1]; exact ix_nat (n := 0) rfl
        have hem : (F.map fun p => PyData.str (txS p.2)).isEmpty = false := by rw [f1]; rfl
        rw [hem] at hnil
        generalize (F.map fun p => PyData.str (txS p.2)) = FL at hnil hix
        have hpc : pcT hs (.c n k s) = if 1 ≤ s ∧ 0 ≤ k ∧ k + s ≤ (p.2.length : Int) then some ((p.2.drop k.toNat).take s.toNat) else none := by rw [pcT_c, f2]; rfl
        by_cases g : 1 ≤ s ∧ 0 ≤ k ∧ k + s ≤ (p.2.length : Int)
        · obtain ⟨g1, g2, g3⟩ := g
          rw [if_pos ⟨g1, g2, g3⟩] at hpc
          obtain ⟨u, hu⟩ : ∃ u, u = (p.2.drop k.toNat).take s.toNat := ⟨_, rfl⟩
          rw [← hu] at hpc
          have hul : u.length ≤ 100 := by rw [hu, List.length_take, List.length_drop]; omega
          have n1 : ¬ s < 1 := by omega
          have n2 : ¬ k < 0 := by omega
          have n3 : ¬ (p.2.length : Int) < k + s := by omega
          have hs2 := sl_both (t := p.2) (a := k.toNat) (b := k.toNat + s.toNat) (sz_ge (by omega)) (by omega)
          rw [Nat.add_sub_cancel_left, ← hu, show ((k.toNat : Nat) : Int) = k by omega, show ((k.toNat + s.toNat : Nat) : Int) = k + s by omega] at hs2
          have ha : addD (.str (txS m)) (.str (txS u)) = some (.str (txS (m ++ u))) := by
            rw [add_str (sz_ge (by rw [txS_length, txS_length]; omega)), txS_append]
          refine .inr ⟨m ++ u, [some (hD hs), some (.str (txS w)), some (.list (ps.map pcD)), some (.list (ws.map wD)), some (.str (txS (m ++ u))), some (pcD (.c n k s)), some (.int k), some (.list FL), none, none, some (.int n), some (.int s), none], by unfold stp2; rw [hpc]; rfl, ?_, _, _, _, _, _, rfl, by rw [List.length_append]; omega⟩
          simp only [ap_var, ap_c, ap_m1, ap_m2, ap_m3, ap_part, ap_nopart, ap_if, ap_isN, ap_notN, ap_list, ap_tup, ap_nil, ap_cons, ap_cb, ap_m1m, ap_chain, ap_isi, ap_mB, ap_asB, ap_and, ap_or, ap_not, ap_yes, ap_call, ap_lc, ap_noX, ap_iseq, ap_iown, ap_seq, th_nx, th_rt, th_exc, ap_skip, ap_set, ap_asg, ap_aug, ap_lm, ap_put, ap_oif, ap_ret, ap_drop, ap_raise, ap_gN, ap_gT, ap_gsN, ap_gsC, ap_app, Res.bind_ok, Res.bind_exc, Res.of_some, exOut_ok, exOut_exc, wipeE, Option.bind_some, List.length_cons, List.length_nil, List.getElem?_cons_zero, List.getElem?_cons_succ, List.set_cons_zero, List.set_cons_succ, List.map_cons, List.map_nil, add_ii, sub_ii, cmpI, negD, modD, ap_lenL, ap_lenT, intD, int1, int2, walkD, if_true, if_false, decide_eq_true_eq, Bool.false_eq_true, reduceIte, Nat.reduceAdd, Nat.reduceSub, List.replicate_succ, List.replicate_zero, List.cons_append, List.nil_append, z0, hnil, n1, n2, n3, decide_false, hix, lp, hs2, ha]
        · rw [if_neg g] at hpc
          refine .inl ⟨by unfold stp2; rw [hpc]; rfl, ?_⟩
          by_cases n1 : s < 1
          · simp only [ap_var, ap_c, ap_m1, ap_m2, ap_m3, ap_part, ap_nopart, ap_if, ap_isN, ap_notN, ap_list, ap_tup, ap_nil, ap_cons, ap_cb, ap_m1m, ap_chain, ap_isi, ap_mB, ap_asB, ap_and, ap_or, ap_not, ap_yes, ap_call, ap_lc, ap_noX, ap_iseq, ap_iown, ap_seq, th_nx, th_rt, th_exc, ap_skip, ap_set, ap_asg, ap_aug, ap_lm, ap_put, ap_oif, ap_ret, ap_drop, ap_raise, ap_gN, ap_gT, ap_gsN, ap_gsC, ap_app, Res.bind_ok, Res.bind_exc, Res.of_some, exOut_ok, exOut_exc, wipeE, Option.bind_some, List.length_cons, List.length_nil, List.getElem?_cons_zero, List.getElem?_cons_succ, List.set_cons_zero, List.set_cons_succ, List.map_cons, List.map_nil, add_ii, sub_ii, cmpI, negD, modD, ap_lenL, ap_lenT, intD, int1, int2, walkD, if_true, if_false, decide_eq_true_eq, Bool.false_eq_true, reduceIte, Nat.reduceAdd, Nat.reduceSub, List.replicate_succ, List.replicate_zero, List.cons_append, List.nil_append, z0, hnil, n1, decide_true]
          · by_cases n2 : k < 0
            · simp only [ap_var, ap_c, ap_m1, ap_m2, ap_m3, ap_part, ap_nopart, ap_if, ap_isN, ap_notN, ap_list, ap_tup, ap_nil, ap_cons, ap_cb, ap_m1m, ap_chain, ap_isi, ap_mB, ap_asB, ap_and, ap_or, ap_not, ap_yes, ap_call, ap_lc, ap_noX, ap_iseq, ap_iown, ap_seq, th_nx, th_rt, th_exc, ap_skip, ap_set, ap_asg, ap_aug, ap_lm, ap_put, ap_oif, ap_ret, ap_drop, ap_raise, ap_gN, ap_gT, ap_gsN, ap_gsC, ap_app, Res.bind_ok, Res.bind_exc, Res.of_some, exOut_ok, exOut_exc, wipeE, Option.bind_some, List.length_cons, List.length_nil, List.getElem?_cons_zero, List.getElem?_cons_succ, List.set_cons_zero, List.set_cons_succ, List.map_cons, List.map_nil, add_ii, sub_ii, cmpI, negD, modD, ap_lenL, ap_lenT, intD, int1, int2, walkD, if_true, if_false, decide_eq_true_eq, Bool.false_eq_true, reduceIte, Nat.reduceAdd, Nat.reduceSub, List.replicate_succ, List.replicate_zero, List.cons_append, List.nil_append, z0, hnil, n1, n2, decide_true, decide_false]
            · have n3 : (p.2.length : Int) < k + s := by omega
              simp only [ap_var, ap_c, ap_m1, ap_m2, ap_m3, ap_part, ap_nopart, ap_if, ap_isN, ap_notN, ap_list, ap_tup, ap_nil, ap_cons, ap_cb, ap_m1m, ap_chain, ap_isi, ap_mB, ap_asB, ap_and, ap_or, ap_not, ap_yes, ap_call, ap_lc, ap_noX, ap_iseq, ap_iown, ap_seq, th_nx, th_rt, th_exc, ap_skip, ap_set, ap_asg, ap_aug, ap_lm, ap_put, ap_oif, ap_ret, ap_drop, ap_raise, ap_gN, ap_gT, ap_gsN, ap_gsC, ap_app, Res.bind_ok, Res.bind_exc, Res.of_some, exOut_ok, exOut_exc, wipeE, Option.bind_some, List.length_cons, List.length_nil, List.getElem?_cons_zero, List.getElem?_cons_succ, List.set_cons_zero, List.set_cons_succ, List.map_cons, List.map_nil, add_ii, sub_ii, cmpI, negD, modD, ap_lenL, ap_lenT, intD, int1, int2, walkD, if_true, if_false, decide_eq_true_eq, Bool.false_eq_true, reduceIte, Nat.reduceAdd, Nat.reduceSub, List.replicate_succ, List.replicate_zero, List.cons_append, List.nil_append, z0, hnil, hix, lp, n1, n2, n3, decide_true, decide_false]
  · intro z
    rw [z]
    rfl
  · rintro m env z ⟨j5, j6, j7, j10, j11, rfl, hm⟩
    rw [z]
    have hne := ne_txt m w
    by_cases cm : m = w
    · subst cm
      rw [decide_eq_true rfl] at hne ⊢
      refine seq_nx (e := [some (hD hs), some (.str (txS m)), some (.list (ps.map pcD)), some (.list (ws.map wD)), some (.str (txS m)), j5, j6, j7, none, none, j10, j11, none]) ?_ ?_
      · simp only [ap_var, ap_c, ap_m1, ap_m2, ap_m3, ap_part, ap_nopart, ap_if, ap_isN, ap_notN, ap_list, ap_tup, ap_nil, ap_cons, ap_cb, ap_m1m, ap_chain, ap_isi, ap_mB, ap_asB, ap_and, ap_or, ap_not, ap_yes, ap_call, ap_lc, ap_noX, ap_iseq, ap_iown, ap_seq, th_nx, th_rt, th_exc, ap_skip, ap_set, ap_asg, ap_aug, ap_lm, ap_put, ap_oif, ap_ret, ap_drop, ap_raise, ap_gN, ap_gT, ap_gsN, ap_gsC, ap_app, Res.bind_ok, Res.bind_exc, Res.of_some, exOut_ok, exOut_exc, wipeE, Option.bind_some, List.length_cons, List.length_nil, List.getElem?_cons_zero, List.getElem?_cons_succ, List.set_cons_zero, List.set_cons_succ, List.map_cons, List.map_nil, add_ii, sub_ii, cmpI, negD, modD, ap_lenL, ap_lenT, intD, int1, int2, walkD, if_true, if_false, decide_eq_true_eq, Bool.false_eq_true, reduceIte, Nat.reduceAdd, Nat.reduceSub, List.replicate_succ, List.replicate_zero, List.cons_append, List.nil_append, hne, Bool.not_true]
      refine for_dec (stp := fun (_ : Unit) (k : Nat) => if badW hs m ws k = true then none else some ()) (fD := fun k : Nat => .int (0 + (k : Int))) (R := fun _ _ env => ∃ j6 j8 j9, env = [some (hD hs), some (.str (txS m)), some (.list (ps.map pcD)), some (.list (ws.map wD)), some (.str (txS m)), j5, j6, j7, j8, j9, j10, j11, none]) (List.range ws.length) () ?_ ⟨_, _, _, rfl⟩ ?_ ?_ ?_
      · refine irange_ok (l := [.int ws.length]) ?_ (range1 (by omega))
        simp only [ap_var, ap_c, ap_m1, ap_m2, ap_m3, ap_part, ap_nopart, ap_if, ap_isN, ap_notN, ap_list, ap_tup, ap_nil, ap_cons, ap_cb, ap_m1m, ap_chain, ap_isi, ap_mB, ap_asB, ap_and, ap_or, ap_not, ap_yes, ap_call, ap_lc, ap_noX, ap_iseq, ap_iown, ap_seq, th_nx, th_rt, th_exc, ap_skip, ap_set, ap_asg, ap_aug, ap_lm, ap_put, ap_oif, ap_ret, ap_drop, ap_raise, ap_gN, ap_gT, ap_gsN, ap_gsC, ap_app, Res.bind_ok, Res.bind_exc, Res.of_some, exOut_ok, exOut_exc, wipeE, Option.bind_some, List.length_cons, List.length_nil, List.getElem?_cons_zero, List.getElem?_cons_succ, List.set_cons_zero, List.set_cons_succ, List.map_cons, List.map_nil, add_ii, sub_ii, cmpI, negD, modD, ap_lenL, ap_lenT, intD, int1, int2, walkD, if_true, if_false, decide_eq_true_eq, Bool.false_eq_true, reduceIte, Nat.reduceAdd, Nat.reduceSub, List.replicate_succ, List.replicate_zero, List.cons_append, List.nil_append, List.length_map]
      · rintro i s k env hk ⟨j6, j8, j9, rfl⟩
        obtain ⟨hi, rfl⟩ := range_get hk
        rw [Int.zero_add]
        refine ⟨[some (hD hs), some (.str (txS m)), some (.list (ps.map pcD)), some (.list (ws.map wD)), some (.str (txS m)), j5, some (.int (k : Int)), j7, j8, j9, j10, j11, none], rfl, ?_⟩
        show ((if badW hs m ws k = true then none else some ()) = none ∧ _) ∨ _
        have x1 := wD_ix (ws := ws) (i := (k : Int)) (k := k) rfl hi
        obtain ⟨p, hp⟩ : ∃ p, p = wat ws k := ⟨_, rfl⟩
        have hfirst : ∀ o2, oSeq (oAsg (m2 ixD (mVar 3) (mVar 6)) (gT' 2 (gsC (gN 8) (gsC (gN 9) gsN)))) o2 [some (hD hs), some (.str (txS m)), some (.list (ps.map pcD)), some (.list (ws.map wD)), some (.str (txS m)), j5, some (.int (k : Int)), j7, j8, j9, j10, j11, none] = o2 [some (hD hs), some (.str (txS m)), some (.list (ps.map pcD)), some (.list (ws.map wD)), some (.str (txS m)), j5, some (.int (k : Int)), j7, some (.int p.1), some (.int p.2), j10, j11, none] := fun o2 => by
          refine seq_nx ?_ rfl
          rw [← hp] at x1
          simp only [ap_var, ap_c, ap_m1, ap_m2, ap_m3, ap_part, ap_nopart, ap_if, ap_isN, ap_notN, ap_list, ap_tup, ap_nil, ap_cons, ap_cb, ap_m1m, ap_chain, ap_isi, ap_mB, ap_asB, ap_and, ap_or, ap_not, ap_yes, ap_call, ap_lc, ap_noX, ap_iseq, ap_iown, ap_seq, th_nx, th_rt, th_exc, ap_skip, ap_set, ap_asg, ap_aug, ap_lm, ap_put, ap_oif, ap_ret, ap_drop, ap_raise, ap_gN, ap_gT, ap_gsN, ap_gsC, ap_app, Res.bind_ok, Res.bind_exc, Res.of_some, exOut_ok, exOut_exc, wipeE, Option.bind_some, List.length_cons, List.length_nil, List.getElem?_cons_zero, List.getElem?_cons_succ, List.set_cons_zero, List.set_cons_succ, List.map_cons, List.map_nil, add_ii, sub_ii, cmpI, negD, modD, ap_lenL, ap_lenT, intD, int1, int2, walkD, if_true, if_false, decide_eq_true_eq, Bool.false_eq_true, reduceIte, Nat.reduceAdd, Nat.reduceSub, List.replicate_succ, List.replicate_zero, List.cons_append, List.nil_append, x1]
          rfl
        rw [hfirst]
        have hbw : badW hs m ws k = (!winB hs m p || (decide (0 < k) && badP ws k)) := by rw [hp]; rfl
        rw [hbw]
        have hln : (mCB lenD (aCons (mVar 1) aNil)) [some (hD hs), some (.str (txS m)), some (.list (ps.map pcD)), some (.list (ws.map wD)), some (.str (txS m)), j5, some (.int (k : Int)), j7, some (.int p.1), some (.int p.2), j10, j11, none] = .ok (.int m.length) := by
          simp only [ap_cb, ap_cons, ap_nil, ap_var, Res.bind_ok, Res.of_some, List.getElem?_cons_zero, List.getElem?_cons_succ, lw]
        have hch := chainG (ma := mVar 8) (mb := mVar 9) (a := p.1) (b := p.2) (var_ok rfl) (var_ok rfl) hln
        have f6 := not_ok (b_ok hch)
        -- behind the first test
        have htail : ∀ hw1 : winB hs m p = true, (oSeq (oIf (bAnd (mB (m2 gtI (mVar 6) (mC (.int 0)))) (bOr (mB (m2 geDD (m2 ixD (mVar 3) (m2 subD (mVar 6) (mC (.int 1)))) (m2 ixD (mVar 3) (mVar 6)))) (mB (m2 ltI (mVar 8) (m2 ixD (m2 ixD (mVar 3) (m2 subD (mVar 6) (mC (.int 1)))) (mC (.int 1))))))) (oRet (mC (.bool false))) oSkip) oSkip) [some (hD hs), some (.str (txS m)), some (.list (ps.map pcD)), some (.list (ws.map wD)), some (.str (txS m)), j5, some (.int (k : Int)), j7, some (.int p.1), some (.int p.2), j10, j11, none] = if (decide (0 < k) && badP ws k) = true then .rt (.bool false) else .nx [some (hD hs), some (.str (txS m)), some (.list (ps.map pcD)), some (.list (ws.map wD)), some (.str (txS m)), j5, some (.int (k : Int)), j7, some (.int p.1), some (.int p.2), j10, j11, none] := by
          intro _
          by_cases k0 : 0 < k
          · have k0' : (0 : Int) < (k : Int) := by omega
            have x2 := wD_ix (ws := ws) (i := (k : Int) - 1) (k := k - 1) (by omega) (by omega)
            have g := ge2 (wat ws (k - 1)) (wat ws k)
            have w1 := wD1 (wat ws (k - 1))
            have hbp : badP ws k = (geP (wat ws (k - 1)) (wat ws k) || decide (p.1 < (wat ws (k - 1)).2)) := by rw [hp]; rfl
            rw [hbp, decide_eq_true k0, Bool.true_and]
            cases hg : geP (wat ws (k - 1)) (wat ws k) with
            | true =>
              rw [hg] at g
              rw [Bool.true_or, if_pos rfl]
              simp only [ap_var, ap_c, ap_m1, ap_m2, ap_m3, ap_part, ap_nopart, ap_if, ap_isN, ap_notN, ap_list, ap_tup, ap_nil, ap_cons, ap_cb, ap_m1m, ap_chain, ap_isi, ap_mB, ap_asB, ap_and, ap_or, ap_not, ap_yes, ap_call, ap_lc, ap_noX, ap_iseq, ap_iown, ap_seq, th_nx, th_rt, th_exc, ap_skip, ap_set, ap_asg, ap_aug, ap_lm, ap_put, ap_oif, ap_ret, ap_drop, ap_raise, ap_gN, ap_gT, ap_gsN, ap_gsC, ap_app, Res.bind_ok, Res.bind_exc, Res.of_some, exOut_ok, exOut_exc, wipeE, Option.bind_some, List.length_cons, List.length_nil, List.getElem?_cons_zero, List.getElem?_cons_succ, List.set_cons_zero, List.set_cons_succ, List.map_cons, List.map_nil, add_ii, sub_ii, cmpI, negD, modD, ap_lenL, ap_lenT, intD, int1, int2, walkD, if_true, if_false, decide_eq_true_eq, Bool.false_eq_true, reduceIte, Nat.reduceAdd, Nat.reduceSub, List.replicate_succ, List.replicate_zero, List.cons_append, List.nil_append, k0', decide_true, x1, x2, g]
            | false =>
              rw [hg] at g
              rw [Bool.false_or]
              by_cases c : p.1 < (wat ws (k - 1)).2
              · rw [decide_eq_true c, if_pos rfl]
                simp only [ap_var, ap_c, ap_m1, ap_m2, ap_m3, ap_part, ap_nopart, ap_if, ap_isN, ap_notN, ap_list, ap_tup, ap_nil, ap_cons, ap_cb, ap_m1m, ap_chain, ap_isi, ap_mB, ap_asB, ap_and, ap_or, ap_not, ap_yes, ap_call, ap_lc, ap_noX, ap_iseq, ap_iown, ap_seq, th_nx, th_rt, th_exc, ap_skip, ap_set, ap_asg, ap_aug, ap_lm, ap_put, ap_oif, ap_ret, ap_drop, ap_raise, ap_gN, ap_gT, ap_gsN, ap_gsC, ap_app, Res.bind_ok, Res.bind_exc, Res.of_some, exOut_ok, exOut_exc, wipeE, Option.bind_some, List.length_cons, List.length_nil, List.getElem?_cons_zero, List.getElem?_cons_succ, List.set_cons_zero, List.set_cons_succ, List.map_cons, List.map_nil, add_ii, sub_ii, cmpI, negD, modD, ap_lenL, ap_lenT, intD, int1, int2, walkD, if_true, if_false, decide_eq_true_eq, Bool.false_eq_true, reduceIte, Nat.reduceAdd, Nat.reduceSub, List.replicate_succ, List.replicate_zero, List.cons_append, List.nil_append, k0', decide_true, x1, x2, g, w1, c]
              · rw [decide_eq_false c, if_neg (by decide)]
                simp only [ap_var, ap_c, ap_m1, ap_m2, ap_m3, ap_part, ap_nopart, ap_if, ap_isN, ap_notN, ap_list, ap_tup, ap_nil, ap_cons, ap_cb, ap_m1m, ap_chain, ap_isi, ap_mB, ap_asB, ap_and, ap_or, ap_not, ap_yes, ap_call, ap_lc, ap_noX, ap_iseq, ap_iown, ap_seq, th_nx, th_rt, th_exc, ap_skip, ap_set, ap_asg, ap_aug, ap_lm, ap_put, ap_oif, ap_ret, ap_drop, ap_raise, ap_gN, ap_gT, ap_gsN, ap_gsC, ap_app, Res.bind_ok, Res.bind_exc, Res.of_some, exOut_ok, exOut_exc, wipeE, Option.bind_some, List.length_cons, List.length_nil, List.getElem?_cons_zero, List.getElem?_cons_succ, List.set_cons_zero, List.set_cons_succ, List.map_cons, List.map_nil, add_ii, sub_ii, cmpI, negD, modD, ap_lenL, ap_lenT, intD, int1, int2, walkD, if_true, if_false, decide_eq_true_eq, Bool.false_eq_true, reduceIte, Nat.reduceAdd, Nat.reduceSub, List.replicate_succ, List.replicate_zero, List.cons_append, List.nil_append, k0', decide_true, x1, x2, g, w1, c, decide_false]
          · have k0' : ¬ (0 : Int) < (k : Int) := by omega
            rw [decide_eq_false k0, Bool.false_and, if_neg (by decide)]
            simp only [ap_var, ap_c, ap_m1, ap_m2, ap_m3, ap_part, ap_nopart, ap_if, ap_isN, ap_notN, ap_list, ap_tup, ap_nil, ap_cons, ap_cb, ap_m1m, ap_chain, ap_isi, ap_mB, ap_asB, ap_and, ap_or, ap_not, ap_yes, ap_call, ap_lc, ap_noX, ap_iseq, ap_iown, ap_seq, th_nx, th_rt, th_exc, ap_skip, ap_set, ap_asg, ap_aug, ap_lm, ap_put, ap_oif, ap_ret, ap_drop, ap_raise, ap_gN, ap_gT, ap_gsN, ap_gsC, ap_app, Res.bind_ok, Res.bind_exc, Res.of_some, exOut_ok, exOut_exc, wipeE, Option.bind_some, List.length_cons, List.length_nil, List.getElem?_cons_zero, List.getElem?_cons_succ, List.set_cons_zero, List.set_cons_succ, List.map_cons, List.map_nil, add_ii, sub_ii, cmpI, negD, modD, ap_lenL, ap_lenT, intD, int1, int2, walkD, if_true, if_false, decide_eq_true_eq, Bool.false_eq_true, reduceIte, Nat.reduceAdd, Nat.reduceSub, List.replicate_succ, List.replicate_zero, List.cons_append, List.nil_append, k0', decide_false]
        by_cases g : 0 ≤ p.1 ∧ p.1 < p.2 ∧ p.2 < (m.length : Int)
        · rw [decide_eq_true g] at f6
          obtain ⟨u, hu⟩ : ∃ u, u = (m.drop p.1.toNat).take (p.2 + 1 - p.1).toNat := ⟨_, rfl⟩
          have hwin : winB hs m p = !inb hs u := by unfold winB; rw [decide_eq_true g, Bool.true_and, hu]
          have hsl := sl_both (t := m) (a := p.1.toNat) (b := (p.2 + 1).toNat) (sz_ge (by omega)) (by omega)
          rw [show (p.2 + 1).toNat - p.1.toNat = (p.2 + 1 - p.1).toNat by omega, ← hu, show ((p.1.toNat : Nat) : Int) = p.1 by omega, show (((p.2 + 1).toNat : Nat) : Int) = p.2 + 1 by omega] at hsl
          have f1 := m2_ok (f := addD) (ma := mVar 9) (mb := mC (.int 1)) (env := [some (hD hs), some (.str (txS m)), some (.list (ps.map pcD)), some (.list (ws.map wD)), some (.str (txS m)), j5, some (.int (k : Int)), j7, some (.int p.1), some (.int p.2), j10, j11, none]) (var_ok rfl) ap_c add_ii
          have f2 := m3_ok (g := slD) (ma := mVar 1) (ml := mPart (mVar 8)) (var_ok rfl) (part_ok (var_ok rfl)) (part_ok f1) hsl
          have f3 := b_ok (call_ok (mf := m__law_is_stretch) (cons_ok (m := mVar 0) (var_ok rfl) (cons_ok f2 ap_nil)) (isst_ok hs u))
          have f7 := or_f f6 f3
          cases hi : inb hs u with
          | true =>
            rw [hi] at f7 hwin
            rw [hwin]
            exact .inl ⟨rfl, by rw [ap_seq, oif_t f7]; rfl⟩
          | false =>
            rw [hi] at f7 hwin
            have ht := htail hwin
            rw [hwin, ap_seq, oif_f f7, ap_skip, th_nx, ht]
            cases hq : (decide (0 < k) && badP ws k) with
            | true => exact .inl ⟨rfl, rfl⟩
            | false => exact .inr ⟨(), _, rfl, rfl, _, _, _, rfl⟩
        · rw [decide_eq_false g] at f6
          have hwin : winB hs m p = false := by unfold winB; rw [decide_eq_false g]; rfl
          rw [hwin]
          exact .inl ⟨rfl, by rw [ap_seq, oif_t (or_t f6)]; rfl⟩
      · intro z
        rw [runS_all (fun k => badW hs m ws k)] at z
        cases h : (List.range ws.length).any fun k => badW hs m ws k with
        | true => rfl
        | false => rw [h] at z; cases z
      · rintro s env z ⟨j6, j8, j9, rfl⟩
        rw [runS_all (fun k => badW hs m ws k)] at z
        cases h : (List.range ws.length).any fun k => badW hs m ws k with
        | true => rw [h] at z; cases z
        | false =>
          have hn := ne_txt m []
          rw [← s_e] at hn
          have hl := len_ok (w := m) (n := ps.length) (m := ws.length)
          generalize lenB m ps.length ws.length = B at hl
          simp only [ap_ret, ap_m2, ap_cb, ap_cons, ap_nil, ap_var, ap_c, Res.bind_ok, Res.of_some, List.getElem?_cons_zero, List.getElem?_cons_succ, ap_lenL, List.length_map, hn, intD, add_ii, hl, exOut_ok, Bool.true_and, Bool.not_false]
    · rw [decide_eq_false cm] at hne
      rw [decide_eq_false (fun z => cm (by injection z))]
      rw [ap_seq]
      simp only [ap_var, ap_c, ap_m1, ap_m2, ap_m3, ap_part, ap_nopart, ap_if, ap_isN, ap_notN, ap_list, ap_tup, ap_nil, ap_cons, ap_cb, ap_m1m, ap_chain, ap_isi, ap_mB, ap_asB, ap_and, ap_or, ap_not, ap_yes, ap_call, ap_lc, ap_noX, ap_iseq, ap_iown, ap_seq, th_nx, th_rt, th_exc, ap_skip, ap_set, ap_asg, ap_aug, ap_lm, ap_put, ap_oif, ap_ret, ap_drop, ap_raise, ap_gN, ap_gT, ap_gsN, ap_gsC, ap_app, Res.bind_ok, Res.bind_exc, Res.of_some, exOut_ok, exOut_exc, wipeE, Option.bind_some, List.length_cons, List.length_nil, List.getElem?_cons_zero, List.getElem?_cons_succ, List.set_cons_zero, List.set_cons_succ, List.map_cons, List.map_nil, add_ii, sub_ii, cmpI, negD, modD, ap_lenL, ap_lenT, intD, int1, int2, walkD, if_true, if_false, decide_eq_true_eq, Bool.false_eq_true, reduceIte, Nat.reduceAdd, Nat.reduceSub, List.replicate_succ, List.replicate_zero, List.cons_append, List.nil_append, hne, Bool.not_false]
      rfl
end K48

namespace K48
open PySem PySem.Spec L2 DL
def psz : Pc → Int
  | .l _ => 1
  | .c _ _ s => s
theorem sizeof_ok (p : Pc) : m_size_of [pcD p] = .ok (.int (psz p)) := by
  refine run_rt ?_
  show o_size_of [some (pcD p)] = _
  unfold o_size_of
  cases p with
  | l c =>
    have h0 := pc_l0 c
    generalize pcD (.l c) = P at h0
    simp only [ap_var, ap_c, ap_m1, ap_m2, ap_m3, ap_part, ap_nopart, ap_if, ap_isN, ap_notN, ap_list, ap_tup, ap_nil, ap_cons, ap_cb, ap_m1m, ap_chain, ap_isi, ap_mB, ap_asB, ap_and, ap_or, ap_not, ap_yes, ap_call, ap_lc, ap_noX, ap_iseq, ap_iown, ap_seq, th_nx, th_rt, th_exc, ap_skip, ap_set, ap_asg, ap_aug, ap_lm, ap_put, ap_oif, ap_ret, ap_drop, ap_raise, ap_gN, ap_gT, ap_gsN, ap_gsC, ap_app, Res.bind_ok, Res.bind_exc, Res.of_some, exOut_ok, exOut_exc, wipeE, Option.bind_some, List.length_cons, List.length_nil, List.getElem?_cons_zero, List.getElem?_cons_succ, List.set_cons_zero, List.set_cons_succ, List.map_cons, List.map_nil, add_ii, sub_ii, cmpI, negD, modD, ap_lenL, ap_lenT, intD, int1, int2, walkD, if_true, if_false, decide_eq_true_eq, Bool.false_eq_true, reduceIte, Nat.reduceAdd, Nat.reduceSub, List.replicate_succ, List.replicate_zero, List.cons_append, List.nil_append, h0, str_pl]
    rfl
  | c n k s =>
    have h0 := pc_c0 n k s
    have h3 : ixD (pcD (.c n k s)) (.int 3) = some (.int s) := ix_tup (n := 3) rfl
    generalize pcD (.c n k s) = P at h0 h3
    simp only [ap_var, ap_c, ap_m1, ap_m2, ap_m3, ap_part, ap_nopart, ap_if, ap_isN, ap_notN, ap_list, ap_tup, ap_nil, ap_cons, ap_cb, ap_m1m, ap_chain, ap_isi, ap_mB, ap_asB, ap_and, ap_or, ap_not, ap_yes, ap_call, ap_lc, ap_noX, ap_iseq, ap_iown, ap_seq, th_nx, th_rt, th_exc, ap_skip, ap_set, ap_asg, ap_aug, ap_lm, ap_put, ap_oif, ap_ret, ap_drop, ap_raise, ap_gN, ap_gT, ap_gsN, ap_gsC, ap_app, Res.bind_ok, Res.bind_exc, Res.of_some, exOut_ok, exOut_exc, wipeE, Option.bind_some, List.length_cons, List.length_nil, List.getElem?_cons_zero, List.getElem?_cons_succ, List.set_cons_zero, List.set_cons_succ, List.map_cons, List.map_nil, add_ii, sub_ii, cmpI, negD, modD, ap_lenL, ap_lenT, intD, int1, int2, walkD, if_true, if_false, decide_eq_true_eq, Bool.false_eq_true, reduceIte, Nat.reduceAdd, Nat.reduceSub, List.replicate_succ, List.replicate_zero, List.cons_append, List.nil_append, h0, h3, str_cl]
    rfl
def tstep (size : Int) (a : List Wi × Int) (p : Pc) : List Wi × Int := (if a.2 + psz p < size then a.1 ++ [(a.2, a.2 + psz p)] else a.1, a.2 + psz p)
def tfold (size : Int) (a : List Wi × Int) (ps : List Pc) : List Wi × Int := ps.foldl (tstep size) a
theorem tfold_snoc (size : Int) (a : List Wi × Int) (ps : List Pc) (p : Pc) : tfold size a (ps ++ [p]) = tstep size (tfold size a ps) p := by
  unfold tfold
  rw [List.foldl_append]
  rfl
theorem tfold_len (size : Int) : ∀ (ps : List Pc) (a : List Wi × Int), (tfold size a ps).1.length ≤ a.1.length + ps.length
  | [], a => Nat.le_refl _
  | p :: ps, a => by
    have ih := tfold_len size ps (tstep size a p)
    have h1 : (tstep size a p).1.length ≤ a.1.length + 1 := by
      unfold tstep
      split
      · simp
      · show a.1.length ≤ _; omega
    show (tfold size (tstep size a p) ps).1.length ≤ _
    rw [List.length_cons]
    omega
theorem told_ok {ps : List Pc} (hps : ps.length ≤ 1000) (size : Int) : m_told_windows [.list (ps.map pcD), .int size] = .ok (.list ((tfold size ([], 0) ps).1.map wD)) := by
  suffices H : ∃ x, o_told_windows [some (.list (ps.map pcD)), some (.int size), none, none, none, none] = x ∧ x = .rt (.list ((tfold size ([], 0) ps).1.map wD)) by
    obtain ⟨x, h1, rfl⟩ := H
    exact run_rt h1
  have z0 : 0 ≤ sizeLine := sz_ge (by omega)
  have z2 : 2 ≤ sizeLine := sz_ge (by omega)
  refine seq_ex (e := [some (.list (ps.map pcD)), some (.int size), some (.list (([] : List Wi).map wD)), none, none, none]) ?_ ?_
  · simp only [ap_var, ap_c, ap_m1, ap_m2, ap_m3, ap_part, ap_nopart, ap_if, ap_isN, ap_notN, ap_list, ap_tup, ap_nil, ap_cons, ap_cb, ap_m1m, ap_chain, ap_isi, ap_mB, ap_asB, ap_and, ap_or, ap_not, ap_yes, ap_call, ap_lc, ap_noX, ap_iseq, ap_iown, ap_seq, th_nx, th_rt, th_exc, ap_skip, ap_set, ap_asg, ap_aug, ap_lm, ap_put, ap_oif, ap_ret, ap_drop, ap_raise, ap_gN, ap_gT, ap_gsN, ap_gsC, ap_app, Res.bind_ok, Res.bind_exc, Res.of_some, exOut_ok, exOut_exc, wipeE, Option.bind_some, List.length_cons, List.length_nil, List.getElem?_cons_zero, List.getElem?_cons_succ, List.set_cons_zero, List.set_cons_succ, List.map_cons, List.map_nil, add_ii, sub_ii, cmpI, negD, modD, ap_lenL, ap_lenT, intD, int1, int2, walkD, if_true, if_false, decide_eq_true_eq, Bool.false_eq_true, reduceIte, Nat.reduceAdd, Nat.reduceSub, List.replicate_succ, List.replicate_zero, List.cons_append, List.nil_append, z0]
  refine seq_ex (e := [some (.list (ps.map pcD)), some (.int size), some (.list (([] : List Wi).map wD)), some (.int 0), none, none]) ?_ ?_
  · simp only [ap_var, ap_c, ap_m1, ap_m2, ap_m3, ap_part, ap_nopart, ap_if, ap_isN, ap_notN, ap_list, ap_tup, ap_nil, ap_cons, ap_cb, ap_m1m, ap_chain, ap_isi, ap_mB, ap_asB, ap_and, ap_or, ap_not, ap_yes, ap_call, ap_lc, ap_noX, ap_iseq, ap_iown, ap_seq, th_nx, th_rt, th_exc, ap_skip, ap_set, ap_asg, ap_aug, ap_lm, ap_put, ap_oif, ap_ret, ap_drop, ap_raise, ap_gN, ap_gT, ap_gsN, ap_gsC, ap_app, Res.bind_ok, Res.bind_exc, Res.of_some, exOut_ok, exOut_exc, wipeE, Option.bind_some, List.length_cons, List.length_nil, List.getElem?_cons_zero, List.getElem?_cons_succ, List.set_cons_zero, List.set_cons_succ, List.map_cons, List.map_nil, add_ii, sub_ii, cmpI, negD, modD, ap_lenL, ap_lenT, intD, int1, int2, walkD, if_true, if_false, decide_eq_true_eq, Bool.false_eq_true, reduceIte, Nat.reduceAdd, Nat.reduceSub, List.replicate_succ, List.replicate_zero, List.cons_append, List.nil_append]
  refine seq_for (fun i e => ∃ j4 j5, e = [some (.list (ps.map pcD)), some (.int size), some (.list ((tfold size ([], 0) (ps.take i)).1.map wD)), some (.int (tfold size ([], 0) (ps.take i)).2), j4, j5]) (ps.map pcD) rfl ⟨_, _, rfl⟩ ?_ ?_
  · rintro i d e hd ⟨j4, j5, rfl⟩
    obtain ⟨p, hp, rfl⟩ := map_get hd
    rw [take_snoc hp, tfold_snoc]
    have hl := tfold_len size (ps.take i) ([], 0)
    generalize tfold size ([], 0) (ps.take i) = A at hl
    obtain ⟨fs, st⟩ := A
    have hl' : fs.length ≤ 1000 := by
      have : (ps.take i).length ≤ ps.length := by rw [List.length_take]; omega
      simp at hl
      omega
    have hs := sizeof_ok p
    have hzz : (fs.map wD).length < sizeLine := sz_gt (by simp; omega)
    refine ⟨_, [some (.list (ps.map pcD)), some (.int size), some (.list ((tstep size (fs, st) p).1.map wD)), some (.int (tstep size (fs, st) p).2), some (pcD p), some (.int (st + psz p))], rfl, ?_, _, _, rfl⟩
    unfold tstep
    generalize psz p = z at hs
    generalize pcD p = P at hs
    by_cases c : st + z < size
    · simp only [c, if_true]
      rw [List.map_append]
      simp only [ap_var, ap_c, ap_m1, ap_m2, ap_m3, ap_part, ap_nopart, ap_if, ap_isN, ap_notN, ap_list, ap_tup, ap_nil, ap_cons, ap_cb, ap_m1m, ap_chain, ap_isi, ap_mB, ap_asB, ap_and, ap_or, ap_not, ap_yes, ap_call, ap_lc, ap_noX, ap_iseq, ap_iown, ap_seq, th_nx, th_rt, th_exc, ap_skip, ap_set, ap_asg, ap_aug, ap_lm, ap_put, ap_oif, ap_ret, ap_drop, ap_raise, ap_gN, ap_gT, ap_gsN, ap_gsC, ap_app, Res.bind_ok, Res.bind_exc, Res.of_some, exOut_ok, exOut_exc, wipeE, Option.bind_some, List.length_cons, List.length_nil, List.getElem?_cons_zero, List.getElem?_cons_succ, List.set_cons_zero, List.set_cons_succ, List.map_cons, List.map_nil, add_ii, sub_ii, cmpI, negD, modD, ap_lenL, ap_lenT, intD, int1, int2, walkD, if_true, if_false, decide_eq_true_eq, Bool.false_eq_true, reduceIte, Nat.reduceAdd, Nat.reduceSub, List.replicate_succ, List.replicate_zero, List.cons_append, List.nil_append, hs, c, decide_true, z2, hzz]
      rfl
    · simp only [c, if_false]
      simp only [ap_var, ap_c, ap_m1, ap_m2, ap_m3, ap_part, ap_nopart, ap_if, ap_isN, ap_notN, ap_list, ap_tup, ap_nil, ap_cons, ap_cb, ap_m1m, ap_chain, ap_isi, ap_mB, ap_asB, ap_and, ap_or, ap_not, ap_yes, ap_call, ap_lc, ap_noX, ap_iseq, ap_iown, ap_seq, th_nx, th_rt, th_exc, ap_skip, ap_set, ap_asg, ap_aug, ap_lm, ap_put, ap_oif, ap_ret, ap_drop, ap_raise, ap_gN, ap_gT, ap_gsN, ap_gsC, ap_app, Res.bind_ok, Res.bind_exc, Res.of_some, exOut_ok, exOut_exc, wipeE, Option.bind_some, List.length_cons, List.length_nil, List.getElem?_cons_zero, List.getElem?_cons_succ, List.set_cons_zero, List.set_cons_succ, List.map_cons, List.map_nil, add_ii, sub_ii, cmpI, negD, modD, ap_lenL, ap_lenT, intD, int1, int2, walkD, if_true, if_false, decide_eq_true_eq, Bool.false_eq_true, reduceIte, Nat.reduceAdd, Nat.reduceSub, List.replicate_succ, List.replicate_zero, List.cons_append, List.nil_append, hs, c, decide_false]
  · rintro e ⟨j4, j5, rfl⟩
    rw [List.length_map, List.take_length]
    exact ⟨_, ret_ok (var_ok rfl), rfl⟩
theorem grF_len_le (hs : Ho) (w : List Nat) : ∀ n st, (grF hs w n st).length ≤ n
  | 0, st => Nat.le_refl _
  | n + 1, st => by
    rw [grF]
    split
    · rw [List.length_cons]
      have := grF_len_le hs w n (nxt hs w st)
      omega
    · exact Nat.zero_le _
/-! ### the windows of a greedy cutting -/
def winF (hs : Ho) (w : List Nat) : Nat → Nat → List Wi
  | 0, _ => []
  | n + 1, st => if st < w.length ∧ nxt hs w st < w.length then ((st : Int), (nxt hs w st : Int)) :: winF hs w n (nxt hs w st) else []
theorem psz_a {hs : Ho} {w : List Nat} {st : Nat} : (st : Int) + psz (pcA hs w st) = (nxt hs w st : Int) := by
  unfold pcA nxt
  by_cases c : (bst hs w st).1 = 0
  · rw [if_pos c, c]
    show (st : Int) + 1 = _
    omega
  · rw [if_neg c]
    show (st : Int) + ((bst hs w st).1 : Int) = _
    omega
theorem tfold_gr (hs : Ho) (w : List Nat) : ∀ (n st : Nat) (acc : List Wi), w.length ≤ st + n → (tfold (w.length : Int) (acc, (st : Int)) (grF hs w n st)).1 = acc ++ winF hs w n st
  | 0, st, acc, _ => by simp [grF, winF, tfold]
  | n + 1, st, acc, h => by
    have hg := nxt_gt hs w st
    rw [grF, winF]
    by_cases c : st < w.length
    · rw [if_pos c]
      show (tfold (w.length : Int) (tstep (w.length : Int) (acc, (st : Int)) (pcA hs w st)) (grF hs w n (nxt hs w st))).1 = _
      have e : tstep (w.length : Int) (acc, (st : Int)) (pcA hs w st) = (if (nxt hs w st : Int) < (w.length : Int) then acc ++ [((st : Int), (nxt hs w st : Int))] else acc, (nxt hs w st : Int)) := by
        unfold tstep
        rw [psz_a]
      rw [e]
      by_cases c2 : nxt hs w st < w.length
      · rw [if_pos (by omega), if_pos ⟨c, c2⟩, tfold_gr hs w n _ _ (by omega), List.append_assoc]
        rfl
      · rw [if_neg (by omega), if_neg (fun z => c2 z.2), tfold_gr hs w n _ _ (by omega)]
        cases n with
        | zero => rfl
        | succ n => rw [winF, if_neg (fun z => c2 z.1)]
    · rw [if_neg c, if_neg (fun z => c z.1)]
      simp [tfold]
def grw (hs : Ho) (w : List Nat) : List Wi := winF hs w w.length 0
theorem windows_ok {hs : Ho} (hb : HB hs) {w : List Nat} (hw : w.length ≤ 900) : m_word_windows [hD hs, .str (txS w)] = .ok (.list ((grw hs w).map wD)) := by
  refine run_rt ?_
  show o_word_windows [some (hD hs), some (.str (txS w))] = _
  unfold o_word_windows
  have lw := ap_lenS (xs := w) (sz_ge (by omega))
  have hc := cut_ok hb (w := w) (by omega)
  have ht := told_ok (ps := grd hs w) (by have := grF_len_le hs w w.length 0; unfold grd; omega) (w.length : Int)
  have e : (tfold (w.length : Int) ([], 0) (grd hs w)).1 = grw hs w := by
    have := tfold_gr hs w w.length 0 [] (by omega)
    rw [List.nil_append] at this
    exact this
  rw [e] at ht
  have e1 := call_ok (mf := m_cut_word) (cons_ok (m := mVar 0) (env := [some (hD hs), some (.str (txS w))]) (var_ok rfl) (cons_ok (m := mVar 1) (var_ok rfl) ap_nil)) hc
  have e2 : (mCB lenD (aCons (mVar 1) aNil)) [some (hD hs), some (.str (txS w))] = .ok (.int w.length) := by
    simp only [ap_cb, ap_cons, ap_nil, ap_var, Res.bind_ok, Res.of_some, List.getElem?_cons_zero, List.getElem?_cons_succ, lw]
  exact ret_ok (call_ok (mf := m_told_windows) (cons_ok e1 (cons_ok e2 ap_nil)) ht)
/-! ### the greedy cutting holds -/
theorem look_at : ∀ {hs : Ho}, hs.Pairwise (fun a b => a.1 < b.1) → ∀ {p : Nat × List Nat}, p ∈ hs → look hs (p.1 : Int) = some p.2
  | [], _, p, h => by simp at h
  | q :: hs, ha, p, h => by
    rw [List.pairwise_cons] at ha
    unfold look
    rw [List.find?_cons]
    rcases List.mem_cons.mp h with rfl | h
    · rw [decide_eq_true rfl]; rfl
    · have := ha.1 p h
      rw [decide_eq_false (by omega)]
      exact look_at ha.2 h
theorem run_gr {hs : Ho} (ha : hs.Pairwise fun a b => a.1 < b.1) (w : List Nat) : ∀ (n st : Nat), w.length ≤ st + n → st ≤ w.length → runS (stp2 hs) (w.take st) (grF hs w n st) = some w
  | 0, st, h, h2 => by
    show some (w.take st) = some w
    rw [List.take_of_length_le (by omega)]
  | n + 1, st, h, h2 => by
    rw [grF]
    by_cases c : st < w.length
    · rw [if_pos c]
      show (stp2 hs (w.take st) (pcA hs w st)).bind _ = _
      have hg := nxt_gt hs w st
      have hle := bst_le hs w st
      have hnx : nxt hs w st ≤ w.length := by unfold nxt; omega
      have key : stp2 hs (w.take st) (pcA hs w st) = some (w.take (nxt hs w st)) := by
        unfold stp2
        by_cases c0 : (bst hs w st).1 = 0
        · have e1 : pcA hs w st = .l (w.getD st 0) := if_pos c0
          have e3 : nxt hs w st = st + 1 := by unfold nxt; omega
          rw [e1, e3, take_snoc (get_getD c)]
          rfl
        · have e1 : pcA hs w st = .c (bst hs w st).2.1 (bst hs w st).2.2 (bst hs w st).1 := if_neg c0
          have e3 : nxt hs w st = st + (bst hs w st).1 := by unfold nxt; omega
          rcases bst_fm hs w st with z | ⟨z1, p, hp, z2, z3, z4⟩
          · rw [z] at c0; exact absurd rfl c0
          · rw [e1, e3, pcT_c, z3, look_at ha hp, Option.bind_some]
            have hl := (lcp_le (w.drop st) (p.2.drop (bst hs w st).2.2)).2
            rw [List.length_drop] at hl
            have e : (bst hs w st).1 = lcp (w.drop st) (p.2.drop (bst hs w st).2.2) := z4
            rw [if_pos ⟨by omega, by omega, by omega⟩]
            have ht := (lcp_take (w.drop st) (p.2.drop (bst hs w st).2.2) (bst hs w st).1 (by rw [List.length_drop]; omega)).mp (by omega)
            rw [Int.toNat_natCast, Int.toNat_natCast, ht, Option.map_some, List.take_add]
      rw [key, Option.bind_some]
      exact run_gr ha w n (nxt hs w st) (by omega) hnx
    · rw [if_neg c]
      show some (w.take st) = some w
      rw [List.take_of_length_le (by omega)]
theorem win_len (hs : Ho) (w : List Nat) : ∀ (n st : Nat), w.length ≤ st + n → st < w.length → (grF hs w n st).length = (winF hs w n st).length + 1
  | 0, st, h, h2 => by omega
  | n + 1, st, h, h2 => by
    have hg := nxt_gt hs w st
    rw [grF, winF, if_pos h2]
    by_cases c2 : nxt hs w st < w.length
    · rw [if_pos ⟨h2, c2⟩, List.length_cons, List.length_cons, win_len hs w n _ (by omega) c2]
    · rw [if_neg (fun z => c2 z.2), grF_stop (by omega)]
      rfl
/-- each window starts where the one before stops -/
def Chn (hs : Ho) (w : List Nat) : Nat → List Wi → Prop
  | _, [] => True
  | st, p :: ws => p = ((st : Int), (nxt hs w st : Int)) ∧ nxt hs w st < w.length ∧ Chn hs w (nxt hs w st) ws
theorem win_chn (hs : Ho) (w : List Nat) : ∀ (n st : Nat), Chn hs w st (winF hs w n st)
  | 0, st => trivial
  | n + 1, st => by
    rw [winF]
    split
    · rename_i h
      exact ⟨rfl, h.2, win_chn hs w n _⟩
    · trivial
theorem chn_at {hs : Ho} {w : List Nat} : ∀ (ws : List Wi) (st : Nat), Chn hs w st ws → ∀ k, k < ws.length → ∃ x : Nat, wat ws k = ((x : Int), (nxt hs w x : Int)) ∧ nxt hs w x < w.length ∧ (k = 0 → x = st) ∧ (0 < k → (wat ws (k - 1)).2 = (x : Int) ∧ (wat ws (k - 1)).1 < (x : Int))
  | [], st, _, k, h => by simp at h
  | p :: ws, st, ⟨h1, h2, h3⟩, 0, _ => ⟨st, h1, h2, fun _ => rfl, fun z => by omega⟩
  | p :: ws, st, ⟨h1, h2, h3⟩, k + 1, h => by
    obtain ⟨x, a1, a2, a3, a4⟩ := chn_at ws (nxt hs w st) h3 k (by simpa using h)
    refine ⟨x, a1, a2, fun z => by omega, fun _ => ?_⟩
    cases k with
    | zero =>
      have hx := a3 rfl
      subst hx
      show (wat (p :: ws) 0).2 = _ ∧ (wat (p :: ws) 0).1 < _
      have e : wat (p :: ws) 0 = p := rfl
      rw [e, h1]
      have := nxt_gt hs w st
      exact ⟨rfl, by show (st : Int) < _; omega⟩
    | succ k => exact a4 (by omega)
theorem due_gr {hs : Ho} (ha : hs.Pairwise fun a b => a.1 < b.1) (w : List Nat) : duB hs w (grd hs w) (grw hs w) = true := by
  unfold duB
  have e1 : runS (stp2 hs) [] (grd hs w) = some w := by
    have := run_gr ha w w.length 0 (by omega) (by omega)
    rw [List.take_zero] at this
    exact this
  have e2 : ((List.range (grw hs w).length).any fun k => badW hs w (grw hs w) k) = false := by
    rw [List.any_eq_false]
    intro k hk
    rw [List.mem_range] at hk
    obtain ⟨x, a1, a2, a3, a4⟩ := chn_at (grw hs w) 0 (win_chn hs w w.length 0) k hk
    have hg := nxt_gt hs w x
    have hw1 : winB hs w (wat (grw hs w) k) = true := by
      rw [a1]
      unfold winB
      show (decide ((0 : Int) ≤ (x : Int) ∧ (x : Int) < (nxt hs w x : Int) ∧ (nxt hs w x : Int) < (w.length : Int)) && !inb hs ((w.drop (x : Int).toNat).take ((nxt hs w x : Int) + 1 - (x : Int)).toNat)) = true
      rw [decide_eq_true ⟨by omega, by omega, by omega⟩, Bool.true_and, Int.toNat_natCast, show ((nxt hs w x : Int) + 1 - (x : Int)).toNat = nxt hs w x + 1 - x by omega]
      cases hi : inb hs ((w.drop x).take (nxt hs w x + 1 - x)) with
      | false => rfl
      | true =>
        have := (inh_iff (hs := hs) (w := w) (s := x) (i := nxt hs w x + 1) (by omega) (by omega)).mp ((inb_iff _ _).mp hi)
        unfold nxt at this
        omega
    have hb1 : (decide (0 < k) && badP (grw hs w) k) = false := by
      by_cases k0 : 0 < k
      · obtain ⟨b1, b2⟩ := a4 k0
        rw [decide_eq_true k0, Bool.true_and]
        unfold badP geP
        rw [a1, decide_eq_true (show (wat (grw hs w) (k - 1)).1 < ((x : Int), (nxt hs w x : Int)).1 from b2), Bool.true_or, b1]
        show (false || decide ((x : Int) < (x : Int))) = false
        simp
      · rw [decide_eq_false k0, Bool.false_and]
    unfold badW
    rw [hw1, hb1]
    simp
  have e3 : lenB w (grd hs w).length (grw hs w).length = true := by
    unfold lenB
    by_cases hw : w = []
    · subst hw; rfl
    · have hl : 0 < w.length := List.length_pos_iff.mpr hw
      have := win_len hs w w.length 0 (by omega) hl
      rw [if_neg hw]
      unfold grd grw
      exact decide_eq_true (by omega)
  rw [e1, e2, e3, decide_eq_true rfl]
  rfl
theorem least_gr (hs : Ho) (w : List Nat) : (grd hs w).length = Gn hs w w.length := by
  unfold grd Gn
  exact grF_len hs w w.length 0
end K48

namespace K48
open PySem PySem.Spec L2 DL
theorem sm_intZ {i : Int} (h1 : -1000000 ≤ i) (h2 : i ≤ 1000000) : Sm 64 0 (.int i) := by
  cases i with
  | ofNat n =>
    have h3 : (n : Int) ≤ 1000000 := h2
    exact Sm.int (n := n) (by omega)
  | negSucc m =>
    have hm : m < 1000000 := by omega
    have hl : m.succ.log2 < 44 := (Nat.log2_lt (by omega)).mpr (by omega)
    refine ⟨by simp [PyData.canLay0], ?_, by simp [PyData.depth], ?_, ?_⟩
    · simp only [PyData.showable, Int.natAbs_negSucc]
      exact decide_eq_true (by omega)
    · simp only [PyData.weight, Int.natAbs_negSucc]
      split
      · omega
      · omega
    · simp only [PyData.intsShort, PyData.shown]
      refine decide_eq_true ?_
      have e : toString (Int.negSucc m) = "-" ++ toString (m + 1) := rfl
      have h3 := PyProof.Rows.toString_length_le (v := ((m + 1 : Nat) : Int)) (k := 7) (by omega) (by decide) (by omega)
      rw [PyProof.Rows.ofString_length] at h3 ⊢
      have h4 : toString ((m + 1 : Nat) : Int) = toString (m + 1) := rfl
      rw [h4] at h3
      rw [e, String.toList_append, List.length_append]
      have h5 : ("-" : String).toList.length = 1 := by decide
      rw [h5]
      omega
def GP (B : Int) (p : Pc) : Prop := match p with
  | .l c => c < 128
  | .c n k s => -B ≤ n ∧ n ≤ B ∧ -B ≤ k ∧ k ≤ B ∧ -B ≤ s ∧ s ≤ B
def GW (B : Int) (p : Wi) : Prop := -B ≤ p.1 ∧ p.1 ≤ B ∧ -B ≤ p.2 ∧ p.2 ≤ B
theorem GP.mono {B B' : Int} (h : B ≤ B') {p : Pc} (g : GP B p) : GP B' p := by
  cases p with
  | l c => exact g
  | c n k s =>
    obtain ⟨a1, a2, a3, a4, a5, a6⟩ := g
    exact ⟨by omega, by omega, by omega, by omega, by omega, by omega⟩
theorem GW.mono {B B' : Int} (h : B ≤ B') {p : Wi} (g : GW B p) : GW B' p := by
  obtain ⟨a1, a2, a3, a4⟩ := g
  exact ⟨by omega, by omega, by omega, by omega⟩
theorem sm_pc {B : Int} (hB : B ≤ 1000000) {p : Pc} (g : GP B p) : Sm 400 1 (pcD p) := by
  have o1 : PyData.strOk (("letter" : String) : Str) = true := by decide +kernel
  have o2 : PyData.strOk (("copy" : String) : Str) = true := by decide +kernel
  have l1 : (("letter" : String) : Str).length = 6 := by decide +kernel
  have l2 : (("copy" : String) : Str).length = 4 := by decide +kernel
  cases p with
  | l c =>
    have := Sm.tuple (w := 64) (dp := 0) (ds := [.str ("letter" : String), .str (txS [c])]) (by
      intro d hd
      simp only [List.mem_cons, List.not_mem_nil, or_false] at hd
      rcases hd with rfl | rfl
      · exact (Sm.str o1).mono (by omega) (by omega)
      · exact (Sm.str (strOk_low (by intro c' hc'; simp at hc'; subst hc'; exact g))).mono (by rw [txS_length]; simp) (by omega))
    exact this.mono (by simp) (by omega)
  | c n k s =>
    obtain ⟨a1, a2, a3, a4, a5, a6⟩ := g
    have := Sm.tuple (w := 64) (dp := 0) (ds := [.str ("copy" : String), .int n, .int k, .int s]) (by
      intro d hd
      simp only [List.mem_cons, List.not_mem_nil, or_false] at hd
      rcases hd with rfl | rfl | rfl | rfl
      · exact (Sm.str o2).mono (by omega) (by omega)
      · exact sm_intZ (by omega) (by omega)
      · exact sm_intZ (by omega) (by omega)
      · exact sm_intZ (by omega) (by omega))
    exact this.mono (by simp) (by omega)
theorem sm_wi {B : Int} (hB : B ≤ 1000000) {p : Wi} (g : GW B p) : Sm 400 1 (wD p) := by
  obtain ⟨a1, a2, a3, a4⟩ := g
  have := Sm.tuple (w := 64) (dp := 0) (ds := [.int p.1, .int p.2]) (by
    intro d hd
    simp only [List.mem_cons, List.not_mem_nil, or_false] at hd
    rcases hd with rfl | rfl
    · exact sm_intZ (by omega) (by omega)
    · exact sm_intZ (by omega) (by omega))
  exact this.mono (by simp) (by omega)
theorem sm_pcs {B : Int} (hB : B ≤ 1000000) {ps : List Pc} (g : ∀ p ∈ ps, GP B p) : Sm (401 * ps.length) 2 (.list (ps.map pcD)) := by
  have := Sm.list (w := 400) (dp := 1) (ds := ps.map pcD) (by
    intro d hd
    obtain ⟨p, hp, rfl⟩ := List.mem_map.mp hd
    exact sm_pc hB (g p hp))
  exact this.mono (by simp) (by omega)
theorem sm_wis {B : Int} (hB : B ≤ 1000000) {ws : List Wi} (g : ∀ p ∈ ws, GW B p) : Sm (401 * ws.length) 2 (.list (ws.map wD)) := by
  have := Sm.list (w := 400) (dp := 1) (ds := ws.map wD) (by
    intro d hd
    obtain ⟨p, hp, rfl⟩ := List.mem_map.mp hd
    exact sm_wi hB (g p hp))
  exact this.mono (by simp) (by omega)
theorem sl_lto {α : Type} (f : α → D) (L : List α) (k : Nat) : slD (.list (L.map f)) none (some (k : Int)) = some (.list ((L.take k).map f)) := by
  show some (PyData.list (cut (L.map f) none (some (k : Int)))) = _
  rw [cut_to, List.map_take]
theorem sl_lfrom {α : Type} (f : α → D) (L : List α) (k : Nat) : slD (.list (L.map f)) (some (k : Int)) none = some (.list ((L.drop k).map f)) := by
  show some (PyData.list (cut (L.map f) (some (k : Int)) none)) = _
  rw [cut_from, List.map_drop]
theorem addM {α : Type} {f : α → D} {x y : List α} (h : x.length + y.length ≤ 16777216) : addD (.list (x.map f)) (.list (y.map f)) = some (.list ((x ++ y).map f)) := by
  rw [addL (sz_ge (by simpa using h)), List.map_append]
theorem pick4w {a b c d : List Wi} (l : Nat) (h : l < 4) : ∃ e, (e = a ∨ e = b ∨ e = c ∨ e = d) ∧ ixD (.list [.list (a.map wD), .list (b.map wD), .list (c.map wD), .list (d.map wD)]) (.int (l : Int)) = some (.list (e.map wD)) := by
  match l, h with
  | 0, _ => exact ⟨a, .inl rfl, ix_nat (n := 0) rfl⟩
  | 1, _ => exact ⟨b, .inr (.inl rfl), ix_nat (n := 1) rfl⟩
  | 2, _ => exact ⟨c, .inr (.inr (.inl rfl)), ix_nat (n := 2) rfl⟩
  | 3, _ => exact ⟨d, .inr (.inr (.inr rfl)), ix_nat (n := 3) rfl⟩
theorem pick2s (l : Nat) (h : l < 2) : ∃ c, c < 128 ∧ ixD (.str ("ab" : String)) (.int (l : Int)) = some (.str (txS [c])) := by
  rw [s_ab]
  match l, h with
  | 0, _ => exact ⟨97, by omega, ix_str (n := 0) (sz_ge (by decide)) rfl⟩
  | 1, _ => exact ⟨98, by omega, ix_str (n := 1) (sz_ge (by decide)) rfl⟩
theorem changed_ok {xs : List Int} (hx : 0 < xs.length) {at' B : Int} (hB0 : 0 ≤ B) (hB : B ≤ 100000) {ps : List Pc} (hps : ps.length ≤ 500) (gp : ∀ p ∈ ps, GP B p) {ws : List Wi} (hws : ws.length ≤ 500) (gw : ∀ p ∈ ws, GW B p) :
    ∃ (ps' : List Pc) (ws' : List Wi), m__law_changed [li xs, .int at', .list (ps.map pcD), .list (ws.map wD)] = .ok (.tuple [.list (ps'.map pcD), .list (ws'.map wD)]) ∧ ps'.length ≤ ps.length + 1 ∧ ws'.length ≤ ws.length + 1 ∧ (∀ p ∈ ps', GP (B + 1) p) ∧ ∀ p ∈ ws', GW (B + 1) p := by
  suffices H : ∃ x, o__law_changed [some (li xs), some (.int at'), some (.list (ps.map pcD)), some (.list (ws.map wD)), none, none, none, none, none, none, none, none, none] = x ∧ ∃ (ps' : List Pc) (ws' : List Wi), x = .rt (.tuple [.list (ps'.map pcD), .list (ws'.map wD)]) ∧ ps'.length ≤ ps.length + 1 ∧ ws'.length ≤ ws.length + 1 ∧ (∀ p ∈ ps', GP (B + 1) p) ∧ ∀ p ∈ ws', GW (B + 1) p by
    obtain ⟨x, h0, ps', ws', h1, h2⟩ := H
    exact ⟨ps', ws', run_rt (h0.trans h1), h2⟩
  have z0 : 0 ≤ sizeLine := sz_ge (by omega)
  have z1 : 1 ≤ sizeLine := sz_ge (by omega)
  have z2 : 2 ≤ sizeLine := sz_ge (by omega)
  have z3 : 3 ≤ sizeLine := sz_ge (by omega)
  have z4 : 4 ≤ sizeLine := sz_ge (by omega)
  obtain ⟨v, _, hv⟩ := drawn_ok (a := at') hx
  obtain ⟨u, _, hu⟩ := drawn_ok (a := at' + 1) hx
  obtain ⟨wd, hwd, hwd'⟩ := mod_nat v (n := 8) (by omega)
  rw [show ((8 : Nat) : Int) = 8 from rfl] at hwd
  have p8 : (0 : Int) < 8 := by decide
  have p2 : (0 : Int) < 2 := by decide
  have gp' : ∀ p ∈ ps, GP (B + 1) p := fun p hp => (gp p hp).mono (by omega)
  have gw' : ∀ p ∈ ws, GW (B + 1) p := fun p hp => (gw p hp).mono (by omega)
  refine seq_ex (e := [some (li xs), some (.int at'), some (.list (ps.map pcD)), some (.list (ws.map wD)), some (.int v), none, none, none, none, none, none, none, none]) ?_ ?_
  · simp only [ap_var, ap_c, ap_m1, ap_m2, ap_m3, ap_part, ap_nopart, ap_if, ap_isN, ap_notN, ap_list, ap_tup, ap_nil, ap_cons, ap_cb, ap_m1m, ap_chain, ap_isi, ap_mB, ap_asB, ap_and, ap_or, ap_not, ap_yes, ap_call, ap_lc, ap_noX, ap_iseq, ap_iown, ap_seq, th_nx, th_rt, th_exc, ap_skip, ap_set, ap_asg, ap_aug, ap_lm, ap_put, ap_oif, ap_ret, ap_drop, ap_raise, ap_gN, ap_gT, ap_gsN, ap_gsC, ap_app, Res.bind_ok, Res.bind_exc, Res.of_some, exOut_ok, exOut_exc, wipeE, Option.bind_some, List.length_cons, List.length_nil, List.getElem?_cons_zero, List.getElem?_cons_succ, List.set_cons_zero, List.set_cons_succ, List.map_cons, List.map_nil, add_ii, sub_ii, cmpI, negD, modD, ap_lenL, ap_lenT, intD, int1, int2, walkD, if_true, if_false, decide_eq_true_eq, Bool.false_eq_true, reduceIte, Nat.reduceAdd, Nat.reduceSub, List.replicate_succ, List.replicate_zero, List.cons_append, List.nil_append, hv]
  refine seq_ex (e := [some (li xs), some (.int at'), some (.list (ps.map pcD)), some (.list (ws.map wD)), some (.int v), some (.int u), none, none, none, none, none, none, none]) ?_ ?_
  · simp only [ap_var, ap_c, ap_m1, ap_m2, ap_m3, ap_part, ap_nopart, ap_if, ap_isN, ap_notN, ap_list, ap_tup, ap_nil, ap_cons, ap_cb, ap_m1m, ap_chain, ap_isi, ap_mB, ap_asB, ap_and, ap_or, ap_not, ap_yes, ap_call, ap_lc, ap_noX, ap_iseq, ap_iown, ap_seq, th_nx, th_rt, th_exc, ap_skip, ap_set, ap_asg, ap_aug, ap_lm, ap_put, ap_oif, ap_ret, ap_drop, ap_raise, ap_gN, ap_gT, ap_gsN, ap_gsC, ap_app, Res.bind_ok, Res.bind_exc, Res.of_some, exOut_ok, exOut_exc, wipeE, Option.bind_some, List.length_cons, List.length_nil, List.getElem?_cons_zero, List.getElem?_cons_succ, List.set_cons_zero, List.set_cons_succ, List.map_cons, List.map_nil, add_ii, sub_ii, cmpI, negD, modD, ap_lenL, ap_lenT, intD, int1, int2, walkD, if_true, if_false, decide_eq_true_eq, Bool.false_eq_true, reduceIte, Nat.reduceAdd, Nat.reduceSub, List.replicate_succ, List.replicate_zero, List.cons_append, List.nil_append, hu]
  refine seq_ex (e := [some (li xs), some (.int at'), some (.list (ps.map pcD)), some (.list (ws.map wD)), some (.int v), some (.int u), some (.int wd), none, none, none, none, none, none]) ?_ ?_
  · simp only [ap_var, ap_c, ap_m1, ap_m2, ap_m3, ap_part, ap_nopart, ap_if, ap_isN, ap_notN, ap_list, ap_tup, ap_nil, ap_cons, ap_cb, ap_m1m, ap_chain, ap_isi, ap_mB, ap_asB, ap_and, ap_or, ap_not, ap_yes, ap_call, ap_lc, ap_noX, ap_iseq, ap_iown, ap_seq, th_nx, th_rt, th_exc, ap_skip, ap_set, ap_asg, ap_aug, ap_lm, ap_put, ap_oif, ap_ret, ap_drop, ap_raise, ap_gN, ap_gT, ap_gsN, ap_gsC, ap_app, Res.bind_ok, Res.bind_exc, Res.of_some, exOut_ok, exOut_exc, wipeE, Option.bind_some, List.length_cons, List.length_nil, List.getElem?_cons_zero, List.getElem?_cons_succ, List.set_cons_zero, List.set_cons_succ, List.map_cons, List.map_nil, add_ii, sub_ii, cmpI, negD, modD, ap_lenL, ap_lenT, intD, int1, int2, walkD, if_true, if_false, decide_eq_true_eq, Bool.false_eq_true, reduceIte, Nat.reduceAdd, Nat.reduceSub, List.replicate_succ, List.replicate_zero, List.cons_append, List.nil_append, p8, hwd]
  have hwn := neD_nil ((sm_wis (by omega) gw).shaped (by omega))
  have hpn := eqD_nil ((sm_pcs (by omega) gp).shaped (by omega))
  have hwe : (ws.map wD).isEmpty = ws.isEmpty := by cases ws <;> rfl
  have hpe : (ps.map pcD).isEmpty = ps.isEmpty := by cases ps <;> rfl
  rw [hwe] at hwn
  rw [hpe] at hpn
  by_cases cA : wd < 4 ∧ ws ≠ []
  · obtain ⟨c1, c2⟩ := cA
    have c1' : (wd : Int) < 4 := by omega
    have hwl : 0 < ws.length := List.length_pos_iff.mpr c2
    have hwl' : (0 : Int) < (ws.length : Int) := by omega
    have e0 : ws.isEmpty = false := by cases ws with | nil => exact absurd rfl c2 | cons _ _ => rfl
    rw [e0] at hwn
    obtain ⟨k, hk, hk2⟩ := mod_nat u hwl
    obtain ⟨q, hq⟩ : ∃ q, q = wat ws k := ⟨_, rfl⟩
    have x1 := wD_ix (ws := ws) (i := (k : Int)) (k := k) rfl hk2
    rw [← hq] at x1
    have hqm : q ∈ ws := by rw [hq]; exact List.mem_of_getElem? (wat_get hk2)
    have s1 := sl_lto wD ws k
    have s2 := sl_lfrom wD ws (k + 1)
    have s3 := sl_lfrom wD ws k
    rw [show ((k + 1 : Nat) : Int) = (k : Int) + 1 by omega] at s2
    have t1 : (ws.take k).length ≤ 500 := by rw [List.length_take]; omega
    have t2 : (ws.drop (k + 1)).length ≤ 500 := by rw [List.length_drop]; omega
    have t3 : (ws.drop k).length ≤ 500 := by rw [List.length_drop]; omega
    have a1 := addM (f := wD) (x := ws.take k) (y := ws.drop (k + 1)) (by omega)
    have b1 : ∀ r : Wi, addD (.list ((ws.take k).map wD)) (.list [wD r]) = some (.list ((ws.take k ++ [r]).map wD)) := fun r => addM (f := wD) (x := ws.take k) (y := [r]) (by simp; omega)
    have a2 := addM (f := wD) (x := ws.take k ++ [q]) (y := ws.drop k) (by simp; omega)
    have a3 : ∀ r : Wi, addD (.list ((ws.take k ++ [r]).map wD)) (.list ((ws.drop (k + 1)).map wD)) = some (.list ((ws.take k ++ [r] ++ ws.drop (k + 1)).map wD)) := fun r => addM (f := wD) (x := ws.take k ++ [r]) (y := ws.drop (k + 1)) (by simp; omega)
    have w1 : PyData.tuple [.int (q.1 + 1), .int q.2] = wD (q.1 + 1, q.2) := rfl
    have w2 : PyData.tuple [.int q.1, .int (q.2 - 1)] = wD (q.1, q.2 - 1) := rfl
    have wq1 : wD q = .tuple [.int q.1, .int q.2] := rfl
    obtain ⟨E, hE, hE2⟩ := pick4w (a := ws.take k ++ ws.drop (k + 1)) (b := ws.take k ++ [q] ++ ws.drop k) (c := ws.take k ++ [(q.1 + 1, q.2)] ++ ws.drop (k + 1)) (d := ws.take k ++ [(q.1, q.2 - 1)] ++ ws.drop (k + 1)) wd c1
    have hAL : ∀ (A Bb C Dd : D), addD (.list [A, Bb, C]) (.list [Dd]) = some (.list [A, Bb, C, Dd]) := fun A Bb C Dd => addL (sz_ge (by simp))
    have hmem : ∀ p ∈ E, p ∈ ws ∨ p = (q.1 + 1, q.2) ∨ p = (q.1, q.2 - 1) := by
      intro p hp
      have htk : ∀ p ∈ ws.take k, p ∈ ws := fun p h => List.mem_of_mem_take h
      have hdk : ∀ n, ∀ p ∈ ws.drop n, p ∈ ws := fun n p h => List.mem_of_mem_drop h
      rcases hE with rfl | rfl | rfl | rfl
      · rcases List.mem_append.mp hp with h | h
        · exact .inl (htk p h)
        · exact .inl (hdk _ p h)
      · rcases List.mem_append.mp hp with h | h
        · rcases List.mem_append.mp h with h | h
          · exact .inl (htk p h)
          · simp at h; subst h; exact .inl hqm
        · exact .inl (hdk _ p h)
      · rcases List.mem_append.mp hp with h | h
        · rcases List.mem_append.mp h with h | h
          · exact .inl (htk p h)
          · simp at h; exact .inr (.inl h)
        · exact .inl (hdk _ p h)
      · rcases List.mem_append.mp hp with h | h
        · rcases List.mem_append.mp h with h | h
          · exact .inl (htk p h)
          · simp at h; exact .inr (.inr h)
        · exact .inl (hdk _ p h)
    have hEl : E.length ≤ ws.length + 1 := by
      rcases hE with rfl | rfl | rfl | rfl <;> simp <;> omega
    refine ⟨.rt (.tuple [.list (ps.map pcD), .list (E.map wD)]), ?_, ps, E, rfl, by omega, hEl, gp', ?_⟩
    · rw [ap_seq, ap_oif]
      have ecnd : (bAnd (mB (m2 ltI (mVar 6) (mC (.int 4)))) (mB (m2 neD (mVar 3) (mList aNil)))) [some (li xs), some (.int at'), some (.list (ps.map pcD)), some (.list (ws.map wD)), some (.int v), some (.int u), some (.int wd), none, none, none, none, none, none] = .ok true := by
        simp only [ap_var, ap_c, ap_m1, ap_m2, ap_m3, ap_part, ap_nopart, ap_if, ap_isN, ap_notN, ap_list, ap_tup, ap_nil, ap_cons, ap_cb, ap_m1m, ap_chain, ap_isi, ap_mB, ap_asB, ap_and, ap_or, ap_not, ap_yes, ap_call, ap_lc, ap_noX, ap_iseq, ap_iown, ap_seq, th_nx, th_rt, th_exc, ap_skip, ap_set, ap_asg, ap_aug, ap_lm, ap_put, ap_oif, ap_ret, ap_drop, ap_raise, ap_gN, ap_gT, ap_gsN, ap_gsC, ap_app, Res.bind_ok, Res.bind_exc, Res.of_some, exOut_ok, exOut_exc, wipeE, Option.bind_some, List.length_cons, List.length_nil, List.getElem?_cons_zero, List.getElem?_cons_succ, List.set_cons_zero, List.set_cons_succ, List.map_cons, List.map_nil, add_ii, sub_ii, cmpI, negD, modD, ap_lenL, ap_lenT, intD, int1, int2, walkD, if_true, if_false, decide_eq_true_eq, Bool.false_eq_true, reduceIte, Nat.reduceAdd, Nat.reduceSub, List.replicate_succ, List.replicate_zero, List.cons_append, List.nil_append, c1', decide_true, z0, hwn, Bool.not_false]
      rw [ecnd, exOut_ok, if_pos rfl]
      have hbody : (oSeq (oSet 7 (m2 modD (mCB intD (aCons (mVar 5) aNil)) (mCB lenD (aCons (mVar 3) aNil)))) (oSeq (oAsg (m2 ixD (mVar 3) (mVar 7)) (gT' 2 (gsC (gN 10) (gsC (gN 12) gsN)))) (oSeq (oSet 8 (mList (aCons (m2 addD (m3 slD (mVar 3) mNoPart (mPart (mVar 7))) (m3 slD (mVar 3) (mPart (m2 addD (mVar 7) (mC (.int 1)))) mNoPart)) (aCons (m2 addD (m2 addD (m3 slD (mVar 3) mNoPart (mPart (mVar 7))) (mList (aCons (m2 ixD (mVar 3) (mVar 7)) aNil))) (m3 slD (mVar 3) (mPart (mVar 7)) mNoPart)) (aCons (m2 addD (m2 addD (m3 slD (mVar 3) mNoPart (mPart (mVar 7))) (mList (aCons (mTup (aCons (m2 addD (mVar 10) (mC (.int 1))) (aCons (mVar 12) aNil))) aNil))) (m3 slD (mVar 3) (mPart (m2 addD (mVar 7) (mC (.int 1)))) mNoPart)) aNil))))) (oRet (mTup (aCons (mVar 2) (aCons (m2 ixD (m2 addD (mVar 8) (mList (aCons (m2 addD (m2 addD (m3 slD (mVar 3) mNoPart (mPart (mVar 7))) (mList (aCons (mTup (aCons (mVar 10) (aCons (m2 subD (mVar 12) (mC (.int 1))) aNil))) aNil))) (m3 slD (mVar 3) (mPart (m2 addD (mVar 7) (mC (.int 1)))) mNoPart)) aNil))) (mVar 6)) aNil))))))) [some (li xs), some (.int at'), some (.list (ps.map pcD)), some (.list (ws.map wD)), some (.int v), some (.int u), some (.int wd), none, none, none, none, none, none] = .rt (.tuple [.list (ps.map pcD), .list (E.map wD)]) := by
        refine seq_nx (e := [some (li xs), some (.int at'), some (.list (ps.map pcD)), some (.list (ws.map wD)), some (.int v), some (.int u), some (.int wd), some (.int (k : Nat)), none, none, none, none, none]) ?_ ?_
        · simp only [ap_var, ap_c, ap_m1, ap_m2, ap_m3, ap_part, ap_nopart, ap_if, ap_isN, ap_notN, ap_list, ap_tup, ap_nil, ap_cons, ap_cb, ap_m1m, ap_chain, ap_isi, ap_mB, ap_asB, ap_and, ap_or, ap_not, ap_yes, ap_call, ap_lc, ap_noX, ap_iseq, ap_iown, ap_seq, th_nx, th_rt, th_exc, ap_skip, ap_set, ap_asg, ap_aug, ap_lm, ap_put, ap_oif, ap_ret, ap_drop, ap_raise, ap_gN, ap_gT, ap_gsN, ap_gsC, ap_app, Res.bind_ok, Res.bind_exc, Res.of_some, exOut_ok, exOut_exc, wipeE, Option.bind_some, List.length_cons, List.length_nil, List.getElem?_cons_zero, List.getElem?_cons_succ, List.set_cons_zero, List.set_cons_succ, List.map_cons, List.map_nil, add_ii, sub_ii, cmpI, negD, modD, ap_lenL, ap_lenT, intD, int1, int2, walkD, if_true, if_false, decide_eq_true_eq, Bool.false_eq_true, reduceIte, Nat.reduceAdd, Nat.reduceSub, List.replicate_succ, List.replicate_zero, List.cons_append, List.nil_append, List.length_map, hwl', hk]
        refine seq_nx (e := [some (li xs), some (.int at'), some (.list (ps.map pcD)), some (.list (ws.map wD)), some (.int v), some (.int u), some (.int wd), some (.int (k : Nat)), none, none, some (.int q.1), none, some (.int q.2)]) ?_ ?_
        · simp only [ap_var, ap_c, ap_m1, ap_m2, ap_m3, ap_part, ap_nopart, ap_if, ap_isN, ap_notN, ap_list, ap_tup, ap_nil, ap_cons, ap_cb, ap_m1m, ap_chain, ap_isi, ap_mB, ap_asB, ap_and, ap_or, ap_not, ap_yes, ap_call, ap_lc, ap_noX, ap_iseq, ap_iown, ap_seq, th_nx, th_rt, th_exc, ap_skip, ap_set, ap_asg, ap_aug, ap_lm, ap_put, ap_oif, ap_ret, ap_drop, ap_raise, ap_gN, ap_gT, ap_gsN, ap_gsC, ap_app, Res.bind_ok, Res.bind_exc, Res.of_some, exOut_ok, exOut_exc, wipeE, Option.bind_some, List.length_cons, List.length_nil, List.getElem?_cons_zero, List.getElem?_cons_succ, List.set_cons_zero, List.set_cons_succ, List.map_cons, List.map_nil, add_ii, sub_ii, cmpI, negD, modD, ap_lenL, ap_lenT, intD, int1, int2, walkD, if_true, if_false, decide_eq_true_eq, Bool.false_eq_true, reduceIte, Nat.reduceAdd, Nat.reduceSub, List.replicate_succ, List.replicate_zero, List.cons_append, List.nil_append, x1]
          rw [wq1]
          simp only [ap_var, ap_c, ap_m1, ap_m2, ap_m3, ap_part, ap_nopart, ap_if, ap_isN, ap_notN, ap_list, ap_tup, ap_nil, ap_cons, ap_cb, ap_m1m, ap_chain, ap_isi, ap_mB, ap_asB, ap_and, ap_or, ap_not, ap_yes, ap_call, ap_lc, ap_noX, ap_iseq, ap_iown, ap_seq, th_nx, th_rt, th_exc, ap_skip, ap_set, ap_asg, ap_aug, ap_lm, ap_put, ap_oif, ap_ret, ap_drop, ap_raise, ap_gN, ap_gT, ap_gsN, ap_gsC, ap_app, Res.bind_ok, Res.bind_exc, Res.of_some, exOut_ok, exOut_exc, wipeE, Option.bind_some, List.length_cons, List.length_nil, List.getElem?_cons_zero, List.getElem?_cons_succ, List.set_cons_zero, List.set_cons_succ, List.map_cons, List.map_nil, add_ii, sub_ii, cmpI, negD, modD, ap_lenL, ap_lenT, intD, int1, int2, walkD, if_true, if_false, decide_eq_true_eq, Bool.false_eq_true, reduceIte, Nat.reduceAdd, Nat.reduceSub, List.replicate_succ, List.replicate_zero, List.cons_append, List.nil_append]
        refine seq_nx (e := [some (li xs), some (.int at'), some (.list (ps.map pcD)), some (.list (ws.map wD)), some (.int v), some (.int u), some (.int wd), some (.int (k : Nat)), some (.list [.list ((ws.take k ++ ws.drop (k + 1)).map wD), .list ((ws.take k ++ [q] ++ ws.drop k).map wD), .list ((ws.take k ++ [(q.1 + 1, q.2)] ++ ws.drop (k + 1)).map wD)]), none, some (.int q.1), none, some (.int q.2)]) ?_ ?_
        · simp only [ap_var, ap_c, ap_m1, ap_m2, ap_m3, ap_part, ap_nopart, ap_if, ap_isN, ap_notN, ap_list, ap_tup, ap_nil, ap_cons, ap_cb, ap_m1m, ap_chain, ap_isi, ap_mB, ap_asB, ap_and, ap_or, ap_not, ap_yes, ap_call, ap_lc, ap_noX, ap_iseq, ap_iown, ap_seq, th_nx, th_rt, th_exc, ap_skip, ap_set, ap_asg, ap_aug, ap_lm, ap_put, ap_oif, ap_ret, ap_drop, ap_raise, ap_gN, ap_gT, ap_gsN, ap_gsC, ap_app, Res.bind_ok, Res.bind_exc, Res.of_some, exOut_ok, exOut_exc, wipeE, Option.bind_some, List.length_cons, List.length_nil, List.getElem?_cons_zero, List.getElem?_cons_succ, List.set_cons_zero, List.set_cons_succ, List.map_cons, List.map_nil, add_ii, sub_ii, cmpI, negD, modD, ap_lenL, ap_lenT, intD, int1, int2, walkD, if_true, if_false, decide_eq_true_eq, Bool.false_eq_true, reduceIte, Nat.reduceAdd, Nat.reduceSub, List.replicate_succ, List.replicate_zero, List.cons_append, List.nil_append, x1, s1, s2, s3, z1, z2, z3, a1, w1, b1, a2, a3]
        · simp only [ap_var, ap_c, ap_m1, ap_m2, ap_m3, ap_part, ap_nopart, ap_if, ap_isN, ap_notN, ap_list, ap_tup, ap_nil, ap_cons, ap_cb, ap_m1m, ap_chain, ap_isi, ap_mB, ap_asB, ap_and, ap_or, ap_not, ap_yes, ap_call, ap_lc, ap_noX, ap_iseq, ap_iown, ap_seq, th_nx, th_rt, th_exc, ap_skip, ap_set, ap_asg, ap_aug, ap_lm, ap_put, ap_oif, ap_ret, ap_drop, ap_raise, ap_gN, ap_gT, ap_gsN, ap_gsC, ap_app, Res.bind_ok, Res.bind_exc, Res.of_some, exOut_ok, exOut_exc, wipeE, Option.bind_some, List.length_cons, List.length_nil, List.getElem?_cons_zero, List.getElem?_cons_succ, List.set_cons_zero, List.set_cons_succ, List.map_cons, List.map_nil, add_ii, sub_ii, cmpI, negD, modD, ap_lenL, ap_lenT, intD, int1, int2, walkD, if_true, if_false, decide_eq_true_eq, Bool.false_eq_true, reduceIte, Nat.reduceAdd, Nat.reduceSub, List.replicate_succ, List.replicate_zero, List.cons_append, List.nil_append, s1, s2, z1, z2, w2, b1, a3, hAL, hE2]
      rw [hbody]
      rfl
    · intro p hp
      obtain ⟨g1, g2, g3, g4⟩ := gw q hqm
      rcases hmem p hp with h | rfl | rfl
      · exact gw' p h
      · exact ⟨by show -(B + 1) ≤ q.1 + 1; omega, by show q.1 + 1 ≤ _; omega, by show -(B + 1) ≤ q.2; omega, by show q.2 ≤ _; omega⟩
      · exact ⟨by show -(B + 1) ≤ q.1; omega, by show q.1 ≤ _; omega, by show -(B + 1) ≤ q.2 - 1; omega, by show q.2 - 1 ≤ _; omega⟩
  have ecnd : (bAnd (mB (m2 ltI (mVar 6) (mC (.int 4)))) (mB (m2 neD (mVar 3) (mList aNil)))) [some (li xs), some (.int at'), some (.list (ps.map pcD)), some (.list (ws.map wD)), some (.int v), some (.int u), some (.int wd), none, none, none, none, none, none] = .ok false := by
    by_cases c1 : wd < 4
    · have c1' : (wd : Int) < 4 := by omega
      have c2 : ws = [] := by
        apply Classical.byContradiction
        intro z
        exact cA ⟨c1, z⟩
      subst c2
      simp only [List.map_nil] at hwn
      simp only [ap_var, ap_c, ap_m1, ap_m2, ap_m3, ap_part, ap_nopart, ap_if, ap_isN, ap_notN, ap_list, ap_tup, ap_nil, ap_cons, ap_cb, ap_m1m, ap_chain, ap_isi, ap_mB, ap_asB, ap_and, ap_or, ap_not, ap_yes, ap_call, ap_lc, ap_noX, ap_iseq, ap_iown, ap_seq, th_nx, th_rt, th_exc, ap_skip, ap_set, ap_asg, ap_aug, ap_lm, ap_put, ap_oif, ap_ret, ap_drop, ap_raise, ap_gN, ap_gT, ap_gsN, ap_gsC, ap_app, Res.bind_ok, Res.bind_exc, Res.of_some, exOut_ok, exOut_exc, wipeE, Option.bind_some, List.length_cons, List.length_nil, List.getElem?_cons_zero, List.getElem?_cons_succ, List.set_cons_zero, List.set_cons_succ, List.map_cons, List.map_nil, add_ii, sub_ii, cmpI, negD, modD, ap_lenL, ap_lenT, intD, int1, int2, walkD, if_true, if_false, decide_eq_true_eq, Bool.false_eq_true, reduceIte, Nat.reduceAdd, Nat.reduceSub, List.replicate_succ, List.replicate_zero, List.cons_append, List.nil_append, c1', decide_true, z0, hwn, List.isEmpty_nil, Bool.not_true]
    · have c1' : ¬ (wd : Int) < 4 := by omega
      simp only [ap_var, ap_c, ap_m1, ap_m2, ap_m3, ap_part, ap_nopart, ap_if, ap_isN, ap_notN, ap_list, ap_tup, ap_nil, ap_cons, ap_cb, ap_m1m, ap_chain, ap_isi, ap_mB, ap_asB, ap_and, ap_or, ap_not, ap_yes, ap_call, ap_lc, ap_noX, ap_iseq, ap_iown, ap_seq, th_nx, th_rt, th_exc, ap_skip, ap_set, ap_asg, ap_aug, ap_lm, ap_put, ap_oif, ap_ret, ap_drop, ap_raise, ap_gN, ap_gT, ap_gsN, ap_gsC, ap_app, Res.bind_ok, Res.bind_exc, Res.of_some, exOut_ok, exOut_exc, wipeE, Option.bind_some, List.length_cons, List.length_nil, List.getElem?_cons_zero, List.getElem?_cons_succ, List.set_cons_zero, List.set_cons_succ, List.map_cons, List.map_nil, add_ii, sub_ii, cmpI, negD, modD, ap_lenL, ap_lenT, intD, int1, int2, walkD, if_true, if_false, decide_eq_true_eq, Bool.false_eq_true, reduceIte, Nat.reduceAdd, Nat.reduceSub, List.replicate_succ, List.replicate_zero, List.cons_append, List.nil_append, c1', decide_false]
  refine seq_ex (e := [some (li xs), some (.int at'), some (.list (ps.map pcD)), some (.list (ws.map wD)), some (.int v), some (.int u), some (.int wd), none, none, none, none, none, none]) (oif_f ecnd) ?_
  by_cases cB : ps = [] ∨ wd < 5
  · have ecnd2 : (bOr (mB (m2 eqD (mVar 2) (mList aNil))) (mB (m2 ltI (mVar 6) (mC (.int 5))))) [some (li xs), some (.int at'), some (.list (ps.map pcD)), some (.list (ws.map wD)), some (.int v), some (.int u), some (.int wd), none, none, none, none, none, none] = .ok true := by
      by_cases c1 : ps = []
      · subst c1
        simp only [List.map_nil] at hpn
        simp only [ap_var, ap_c, ap_m1, ap_m2, ap_m3, ap_part, ap_nopart, ap_if, ap_isN, ap_notN, ap_list, ap_tup, ap_nil, ap_cons, ap_cb, ap_m1m, ap_chain, ap_isi, ap_mB, ap_asB, ap_and, ap_or, ap_not, ap_yes, ap_call, ap_lc, ap_noX, ap_iseq, ap_iown, ap_seq, th_nx, th_rt, th_exc, ap_skip, ap_set, ap_asg, ap_aug, ap_lm, ap_put, ap_oif, ap_ret, ap_drop, ap_raise, ap_gN, ap_gT, ap_gsN, ap_gsC, ap_app, Res.bind_ok, Res.bind_exc, Res.of_some, exOut_ok, exOut_exc, wipeE, Option.bind_some, List.length_cons, List.length_nil, List.getElem?_cons_zero, List.getElem?_cons_succ, List.set_cons_zero, List.set_cons_succ, List.map_cons, List.map_nil, add_ii, sub_ii, cmpI, negD, modD, ap_lenL, ap_lenT, intD, int1, int2, walkD, if_true, if_false, decide_eq_true_eq, Bool.false_eq_true, reduceIte, Nat.reduceAdd, Nat.reduceSub, List.replicate_succ, List.replicate_zero, List.cons_append, List.nil_append, z0, hpn, List.isEmpty_nil]
      · have c2 : (wd : Int) < 5 := by have := cB.resolve_left c1; omega
        have e0 : ps.isEmpty = false := by cases ps with | nil => exact absurd rfl c1 | cons _ _ => rfl
        rw [e0] at hpn
        simp only [ap_var, ap_c, ap_m1, ap_m2, ap_m3, ap_part, ap_nopart, ap_if, ap_isN, ap_notN, ap_list, ap_tup, ap_nil, ap_cons, ap_cb, ap_m1m, ap_chain, ap_isi, ap_mB, ap_asB, ap_and, ap_or, ap_not, ap_yes, ap_call, ap_lc, ap_noX, ap_iseq, ap_iown, ap_seq, th_nx, th_rt, th_exc, ap_skip, ap_set, ap_asg, ap_aug, ap_lm, ap_put, ap_oif, ap_ret, ap_drop, ap_raise, ap_gN, ap_gT, ap_gsN, ap_gsC, ap_app, Res.bind_ok, Res.bind_exc, Res.of_some, exOut_ok, exOut_exc, wipeE, Option.bind_some, List.length_cons, List.length_nil, List.getElem?_cons_zero, List.getElem?_cons_succ, List.set_cons_zero, List.set_cons_succ, List.map_cons, List.map_nil, add_ii, sub_ii, cmpI, negD, modD, ap_lenL, ap_lenT, intD, int1, int2, walkD, if_true, if_false, decide_eq_true_eq, Bool.false_eq_true, reduceIte, Nat.reduceAdd, Nat.reduceSub, List.replicate_succ, List.replicate_zero, List.cons_append, List.nil_append, z0, hpn, c2, decide_true]
    have hp1 : PyData.tuple [.str ("letter" : String), .str (txS [97])] = pcD (.l 97) := rfl
    have ha : addD (.list (ps.map pcD)) (.list [pcD (.l 97)]) = some (.list ((ps ++ [Pc.l 97]).map pcD)) := addM (f := pcD) (x := ps) (y := [Pc.l 97]) (by simp; omega)
    refine ⟨.rt (.tuple [.list ((ps ++ [Pc.l 97]).map pcD), .list (ws.map wD)]), ?_, ps ++ [Pc.l 97], ws, rfl, by simp, by omega, ?_, gw'⟩
    · rw [ap_seq, ap_oif, ecnd2, exOut_ok, if_pos rfl]
      rw [s_a]
      simp only [ap_var, ap_c, ap_m1, ap_m2, ap_m3, ap_part, ap_nopart, ap_if, ap_isN, ap_notN, ap_list, ap_tup, ap_nil, ap_cons, ap_cb, ap_m1m, ap_chain, ap_isi, ap_mB, ap_asB, ap_and, ap_or, ap_not, ap_yes, ap_call, ap_lc, ap_noX, ap_iseq, ap_iown, ap_seq, th_nx, th_rt, th_exc, ap_skip, ap_set, ap_asg, ap_aug, ap_lm, ap_put, ap_oif, ap_ret, ap_drop, ap_raise, ap_gN, ap_gT, ap_gsN, ap_gsC, ap_app, Res.bind_ok, Res.bind_exc, Res.of_some, exOut_ok, exOut_exc, wipeE, Option.bind_some, List.length_cons, List.length_nil, List.getElem?_cons_zero, List.getElem?_cons_succ, List.set_cons_zero, List.set_cons_succ, List.map_cons, List.map_nil, add_ii, sub_ii, cmpI, negD, modD, ap_lenL, ap_lenT, intD, int1, int2, walkD, if_true, if_false, decide_eq_true_eq, Bool.false_eq_true, reduceIte, Nat.reduceAdd, Nat.reduceSub, List.replicate_succ, List.replicate_zero, List.cons_append, List.nil_append, z1, z2, hp1, ha]
    · intro p hp
      rcases List.mem_append.mp hp with h | h
      · exact gp' p h
      · simp at h; subst h; show 97 < 128; omega
  have c1 : ¬ ps = [] := fun z => cB (.inl z)
  have c2 : ¬ (wd : Int) < 5 := by have : ¬ wd < 5 := fun z => cB (.inr z); omega
  have e0 : ps.isEmpty = false := by cases ps with | nil => exact absurd rfl c1 | cons _ _ => rfl
  rw [e0] at hpn
  have hpl : 0 < ps.length := List.length_pos_iff.mpr c1
  have hpl' : (0 : Int) < (ps.length : Int) := by omega
  have ecnd2 : (bOr (mB (m2 eqD (mVar 2) (mList aNil))) (mB (m2 ltI (mVar 6) (mC (.int 5))))) [some (li xs), some (.int at'), some (.list (ps.map pcD)), some (.list (ws.map wD)), some (.int v), some (.int u), some (.int wd), none, none, none, none, none, none] = .ok false := by
    simp only [ap_var, ap_c, ap_m1, ap_m2, ap_m3, ap_part, ap_nopart, ap_if, ap_isN, ap_notN, ap_list, ap_tup, ap_nil, ap_cons, ap_cb, ap_m1m, ap_chain, ap_isi, ap_mB, ap_asB, ap_and, ap_or, ap_not, ap_yes, ap_call, ap_lc, ap_noX, ap_iseq, ap_iown, ap_seq, th_nx, th_rt, th_exc, ap_skip, ap_set, ap_asg, ap_aug, ap_lm, ap_put, ap_oif, ap_ret, ap_drop, ap_raise, ap_gN, ap_gT, ap_gsN, ap_gsC, ap_app, Res.bind_ok, Res.bind_exc, Res.of_some, exOut_ok, exOut_exc, wipeE, Option.bind_some, List.length_cons, List.length_nil, List.getElem?_cons_zero, List.getElem?_cons_succ, List.set_cons_zero, List.set_cons_succ, List.map_cons, List.map_nil, add_ii, sub_ii, cmpI, negD, modD, ap_lenL, ap_lenT, intD, int1, int2, walkD, if_true, if_false, decide_eq_true_eq, Bool.false_eq_true, reduceIte, Nat.reduceAdd, Nat.reduceSub, List.replicate_succ, List.replicate_zero, List.cons_append, List.nil_append, z0, hpn, c2, decide_false]
  refine seq_ex (e := [some (li xs), some (.int at'), some (.list (ps.map pcD)), some (.list (ws.map wD)), some (.int v), some (.int u), some (.int wd), none, none, none, none, none, none]) (oif_f ecnd2) ?_
  obtain ⟨k, hk, hk2⟩ := mod_nat u hpl
  refine seq_ex (e := [some (li xs), some (.int at'), some (.list (ps.map pcD)), some (.list (ws.map wD)), some (.int v), some (.int u), some (.int wd), some (.int (k : Nat)), none, none, none, none, none]) ?_ ?_
  · simp only [ap_var, ap_c, ap_m1, ap_m2, ap_m3, ap_part, ap_nopart, ap_if, ap_isN, ap_notN, ap_list, ap_tup, ap_nil, ap_cons, ap_cb, ap_m1m, ap_chain, ap_isi, ap_mB, ap_asB, ap_and, ap_or, ap_not, ap_yes, ap_call, ap_lc, ap_noX, ap_iseq, ap_iown, ap_seq, th_nx, th_rt, th_exc, ap_skip, ap_set, ap_asg, ap_aug, ap_lm, ap_put, ap_oif, ap_ret, ap_drop, ap_raise, ap_gN, ap_gT, ap_gsN, ap_gsC, ap_app, Res.bind_ok, Res.bind_exc, Res.of_some, exOut_ok, exOut_exc, wipeE, Option.bind_some, List.length_cons, List.length_nil, List.getElem?_cons_zero, List.getElem?_cons_succ, List.set_cons_zero, List.set_cons_succ, List.map_cons, List.map_nil, add_ii, sub_ii, cmpI, negD, modD, ap_lenL, ap_lenT, intD, int1, int2, walkD, if_true, if_false, decide_eq_true_eq, Bool.false_eq_true, reduceIte, Nat.reduceAdd, Nat.reduceSub, List.replicate_succ, List.replicate_zero, List.cons_append, List.nil_append, List.length_map, hpl', hk]
  have s1 := sl_lto pcD ps k
  have s2 := sl_lfrom pcD ps (k + 1)
  rw [show ((k + 1 : Nat) : Int) = (k : Int) + 1 by omega] at s2
  have t1 : (ps.take k).length ≤ 500 := by rw [List.length_take]; omega
  have t2 : (ps.drop (k + 1)).length ≤ 500 := by rw [List.length_drop]; omega
  have a1 := addM (f := pcD) (x := ps.take k) (y := ps.drop (k + 1)) (by omega)
  have b1 : ∀ r : Pc, addD (.list ((ps.take k).map pcD)) (.list [pcD r]) = some (.list ((ps.take k ++ [r]).map pcD)) := fun r => addM (f := pcD) (x := ps.take k) (y := [r]) (by simp; omega)
  have a3 : ∀ r : Pc, addD (.list ((ps.take k ++ [r]).map pcD)) (.list ((ps.drop (k + 1)).map pcD)) = some (.list ((ps.take k ++ [r] ++ ps.drop (k + 1)).map pcD)) := fun r => addM (f := pcD) (x := ps.take k ++ [r]) (y := ps.drop (k + 1)) (by simp; omega)
  have hin : ∀ (r : Pc), GP (B + 1) r → ∀ p ∈ ps.take k ++ [r] ++ ps.drop (k + 1), GP (B + 1) p := by
    intro r hr p hp
    rcases List.mem_append.mp hp with h | h
    · rcases List.mem_append.mp h with h | h
      · exact gp' p (List.mem_of_mem_take h)
      · simp at h; subst h; exact hr
    · exact gp' p (List.mem_of_mem_drop h)
  have hln : ∀ r : Pc, (ps.take k ++ [r] ++ ps.drop (k + 1)).length ≤ ps.length + 1 := by
    intro r; simp; omega
  by_cases c5 : wd = 5
  · have q5 : eqD (.int (wd : Int)) (.int 5) = some (.bool true) := eqi (decide_eq_true (by omega))
    refine ⟨.rt (.tuple [.list ((ps.take k ++ ps.drop (k + 1)).map pcD), .list (ws.map wD)]), ?_, ps.take k ++ ps.drop (k + 1), ws, rfl, by simp; omega, by omega, ?_, gw'⟩
    · rw [ap_seq]
      simp only [ap_var, ap_c, ap_m1, ap_m2, ap_m3, ap_part, ap_nopart, ap_if, ap_isN, ap_notN, ap_list, ap_tup, ap_nil, ap_cons, ap_cb, ap_m1m, ap_chain, ap_isi, ap_mB, ap_asB, ap_and, ap_or, ap_not, ap_yes, ap_call, ap_lc, ap_noX, ap_iseq, ap_iown, ap_seq, th_nx, th_rt, th_exc, ap_skip, ap_set, ap_asg, ap_aug, ap_lm, ap_put, ap_oif, ap_ret, ap_drop, ap_raise, ap_gN, ap_gT, ap_gsN, ap_gsC, ap_app, Res.bind_ok, Res.bind_exc, Res.of_some, exOut_ok, exOut_exc, wipeE, Option.bind_some, List.length_cons, List.length_nil, List.getElem?_cons_zero, List.getElem?_cons_succ, List.set_cons_zero, List.set_cons_succ, List.map_cons, List.map_nil, add_ii, sub_ii, cmpI, negD, modD, ap_lenL, ap_lenT, intD, int1, int2, walkD, if_true, if_false, decide_eq_true_eq, Bool.false_eq_true, reduceIte, Nat.reduceAdd, Nat.reduceSub, List.replicate_succ, List.replicate_zero, List.cons_append, List.nil_append, q5, s1, s2, a1, z2]
    · intro p hp
      rcases List.mem_append.mp hp with h | h
      · exact gp' p (List.mem_of_mem_take h)
      · exact gp' p (List.mem_of_mem_drop h)
  have q5 : eqD (.int (wd : Int)) (.int 5) = some (.bool false) := eqi (decide_eq_false (by omega))
  refine seq_ex (e := [some (li xs), some (.int at'), some (.list (ps.map pcD)), some (.list (ws.map wD)), some (.int v), some (.int u), some (.int wd), some (.int (k : Nat)), none, none, none, none, none]) ?_ ?_
  · simp only [ap_var, ap_c, ap_m1, ap_m2, ap_m3, ap_part, ap_nopart, ap_if, ap_isN, ap_notN, ap_list, ap_tup, ap_nil, ap_cons, ap_cb, ap_m1m, ap_chain, ap_isi, ap_mB, ap_asB, ap_and, ap_or, ap_not, ap_yes, ap_call, ap_lc, ap_noX, ap_iseq, ap_iown, ap_seq, th_nx, th_rt, th_exc, ap_skip, ap_set, ap_asg, ap_aug, ap_lm, ap_put, ap_oif, ap_ret, ap_drop, ap_raise, ap_gN, ap_gT, ap_gsN, ap_gsC, ap_app, Res.bind_ok, Res.bind_exc, Res.of_some, exOut_ok, exOut_exc, wipeE, Option.bind_some, List.length_cons, List.length_nil, List.getElem?_cons_zero, List.getElem?_cons_succ, List.set_cons_zero, List.set_cons_succ, List.map_cons, List.map_nil, add_ii, sub_ii, cmpI, negD, modD, ap_lenL, ap_lenT, intD, int1, int2, walkD, if_true, if_false, decide_eq_true_eq, Bool.false_eq_true, reduceIte, Nat.reduceAdd, Nat.reduceSub, List.replicate_succ, List.replicate_zero, List.cons_append, List.nil_append, q5]
  obtain ⟨P, hP⟩ : ∃ P, ps[k]? = some P := ⟨_, List.getElem?_eq_getElem hk2⟩
  have xP : ixD (.list (ps.map pcD)) (.int (k : Int)) = some (pcD P) := ix_nat (by rw [List.getElem?_map, hP]; rfl)
  have gP := gp P (List.mem_of_getElem? hP)
  have d60 := fdiv_ok (a := u) (n := 60) (by omega)
  have d120 := fdiv_ok (a := u) (n := 120) (by omega)
  have d240 := fdiv_ok (a := u) (n := 240) (by omega)
  rw [show ((60 : Nat) : Int) = 60 from rfl] at d60
  rw [show ((120 : Nat) : Int) = 120 from rfl] at d120
  rw [show ((240 : Nat) : Int) = 240 from rfl] at d240
  obtain ⟨m60, hm60, hm60'⟩ := mod_nat (u / 60) (n := 2) (by omega)
  obtain ⟨m120, hm120, hm120'⟩ := mod_nat (u / 120) (n := 2) (by omega)
  obtain ⟨m240, hm240, hm240'⟩ := mod_nat (u / 240) (n := 2) (by omega)
  rw [show ((2 : Nat) : Int) = 2 from rfl] at hm60 hm120 hm240
  cases P with
  | l c =>
    obtain ⟨c', hc', hc''⟩ := pick2s m60 hm60'
    have h0 := pc_l0 c
    have hp1 : PyData.tuple [.str ("letter" : String), .str (txS [c'])] = pcD (.l c') := rfl
    refine ⟨.rt (.tuple [.list ((ps.take k ++ [Pc.l c'] ++ ps.drop (k + 1)).map pcD), .list (ws.map wD)]), ?_, _, ws, rfl, hln _, by omega, hin (.l c') hc', gw'⟩
    rw [ap_seq]
    generalize pcD (.l c) = Q at xP h0
    simp only [ap_var, ap_c, ap_m1, ap_m2, ap_m3, ap_part, ap_nopart, ap_if, ap_isN, ap_notN, ap_list, ap_tup, ap_nil, ap_cons, ap_cb, ap_m1m, ap_chain, ap_isi, ap_mB, ap_asB, ap_and, ap_or, ap_not, ap_yes, ap_call, ap_lc, ap_noX, ap_iseq, ap_iown, ap_seq, th_nx, th_rt, th_exc, ap_skip, ap_set, ap_asg, ap_aug, ap_lm, ap_put, ap_oif, ap_ret, ap_drop, ap_raise, ap_gN, ap_gT, ap_gsN, ap_gsC, ap_app, Res.bind_ok, Res.bind_exc, Res.of_some, exOut_ok, exOut_exc, wipeE, Option.bind_some, List.length_cons, List.length_nil, List.getElem?_cons_zero, List.getElem?_cons_succ, List.set_cons_zero, List.set_cons_succ, List.map_cons, List.map_nil, add_ii, sub_ii, cmpI, negD, modD, ap_lenL, ap_lenT, intD, int1, int2, walkD, if_true, if_false, decide_eq_true_eq, Bool.false_eq_true, reduceIte, Nat.reduceAdd, Nat.reduceSub, List.replicate_succ, List.replicate_zero, List.cons_append, List.nil_append, xP, h0, str_pl, s1, s2, d60, p2, hm60, hc'', z1, z2, hp1, b1, a3]
  | c n0 k0 s0 =>
    have h0 := pc_c0 n0 k0 s0
    have hsl : slD (pcD (.c n0 k0 s0)) (some 1) none = some (.tuple [.int n0, .int k0, .int s0]) := rfl
    obtain ⟨g1, g2, g3, g4, g5, g6⟩ := gP
    have hp1 : PyData.tuple [.str ("copy" : String), .int (n0 + (m60 : Int)), .int (k0 + (m120 : Int)), .int (s0 - (m240 : Int))] = pcD (.c (n0 + m60) (k0 + m120) (s0 - m240)) := rfl
    generalize pcD (.c n0 k0 s0) = Q at xP h0 hsl
    refine seq_ex (e := [some (li xs), some (.int at'), some (.list (ps.map pcD)), some (.list (ws.map wD)), some (.int v), some (.int u), some (.int wd), some (.int (k : Nat)), none, none, none, none, none]) ?_ ?_
    · simp only [ap_var, ap_c, ap_m1, ap_m2, ap_m3, ap_part, ap_nopart, ap_if, ap_isN, ap_notN, ap_list, ap_tup, ap_nil, ap_cons, ap_cb, ap_m1m, ap_chain, ap_isi, ap_mB, ap_asB, ap_and, ap_or, ap_not, ap_yes, ap_call, ap_lc, ap_noX, ap_iseq, ap_iown, ap_seq, th_nx, th_rt, th_exc, ap_skip, ap_set, ap_asg, ap_aug, ap_lm, ap_put, ap_oif, ap_ret, ap_drop, ap_raise, ap_gN, ap_gT, ap_gsN, ap_gsC, ap_app, Res.bind_ok, Res.bind_exc, Res.of_some, exOut_ok, exOut_exc, wipeE, Option.bind_some, List.length_cons, List.length_nil, List.getElem?_cons_zero, List.getElem?_cons_succ, List.set_cons_zero, List.set_cons_succ, List.map_cons, List.map_nil, add_ii, sub_ii, cmpI, negD, modD, ap_lenL, ap_lenT, intD, int1, int2, walkD, if_true, if_false, decide_eq_true_eq, Bool.false_eq_true, reduceIte, Nat.reduceAdd, Nat.reduceSub, List.replicate_succ, List.replicate_zero, List.cons_append, List.nil_append, xP, h0, str_cl]
    refine seq_ex (e := [some (li xs), some (.int at'), some (.list (ps.map pcD)), some (.list (ws.map wD)), some (.int v), some (.int u), some (.int wd), some (.int (k : Nat)), none, some (.int n0), some (.int k0), some (.int s0), none]) ?_ ?_
    · simp only [ap_var, ap_c, ap_m1, ap_m2, ap_m3, ap_part, ap_nopart, ap_if, ap_isN, ap_notN, ap_list, ap_tup, ap_nil, ap_cons, ap_cb, ap_m1m, ap_chain, ap_isi, ap_mB, ap_asB, ap_and, ap_or, ap_not, ap_yes, ap_call, ap_lc, ap_noX, ap_iseq, ap_iown, ap_seq, th_nx, th_rt, th_exc, ap_skip, ap_set, ap_asg, ap_aug, ap_lm, ap_put, ap_oif, ap_ret, ap_drop, ap_raise, ap_gN, ap_gT, ap_gsN, ap_gsC, ap_app, Res.bind_ok, Res.bind_exc, Res.of_some, exOut_ok, exOut_exc, wipeE, Option.bind_some, List.length_cons, List.length_nil, List.getElem?_cons_zero, List.getElem?_cons_succ, List.set_cons_zero, List.set_cons_succ, List.map_cons, List.map_nil, add_ii, sub_ii, cmpI, negD, modD, ap_lenL, ap_lenT, intD, int1, int2, walkD, if_true, if_false, decide_eq_true_eq, Bool.false_eq_true, reduceIte, Nat.reduceAdd, Nat.reduceSub, List.replicate_succ, List.replicate_zero, List.cons_append, List.nil_append, xP, hsl]
    refine seq_ex (e := [some (li xs), some (.int at'), some (.list (ps.map pcD)), some (.list (ws.map wD)), some (.int v), some (.int u), some (.int wd), some (.int (k : Nat)), some (pcD (.c (n0 + m60) (k0 + m120) (s0 - m240))), some (.int n0), some (.int k0), some (.int s0), none]) ?_ ?_
    · simp only [ap_var, ap_c, ap_m1, ap_m2, ap_m3, ap_part, ap_nopart, ap_if, ap_isN, ap_notN, ap_list, ap_tup, ap_nil, ap_cons, ap_cb, ap_m1m, ap_chain, ap_isi, ap_mB, ap_asB, ap_and, ap_or, ap_not, ap_yes, ap_call, ap_lc, ap_noX, ap_iseq, ap_iown, ap_seq, th_nx, th_rt, th_exc, ap_skip, ap_set, ap_asg, ap_aug, ap_lm, ap_put, ap_oif, ap_ret, ap_drop, ap_raise, ap_gN, ap_gT, ap_gsN, ap_gsC, ap_app, Res.bind_ok, Res.bind_exc, Res.of_some, exOut_ok, exOut_exc, wipeE, Option.bind_some, List.length_cons, List.length_nil, List.getElem?_cons_zero, List.getElem?_cons_succ, List.set_cons_zero, List.set_cons_succ, List.map_cons, List.map_nil, add_ii, sub_ii, cmpI, negD, modD, ap_lenL, ap_lenT, intD, int1, int2, walkD, if_true, if_false, decide_eq_true_eq, Bool.false_eq_true, reduceIte, Nat.reduceAdd, Nat.reduceSub, List.replicate_succ, List.replicate_zero, List.cons_append, List.nil_append, d60, d120, d240, p2, hm60, hm120, hm240, z4, hp1]
    refine ⟨.rt (.tuple [.list ((ps.take k ++ [Pc.c (n0 + m60) (k0 + m120) (s0 - m240)] ++ ps.drop (k + 1)).map pcD), .list (ws.map wD)]), ?_, _, ws, rfl, hln _, by omega, hin _ ?_, gw'⟩
    · simp only [ap_var, ap_c, ap_m1, ap_m2, ap_m3, ap_part, ap_nopart, ap_if, ap_isN, ap_notN, ap_list, ap_tup, ap_nil, ap_cons, ap_cb, ap_m1m, ap_chain, ap_isi, ap_mB, ap_asB, ap_and, ap_or, ap_not, ap_yes, ap_call, ap_lc, ap_noX, ap_iseq, ap_iown, ap_seq, th_nx, th_rt, th_exc, ap_skip, ap_set, ap_asg, ap_aug, ap_lm, ap_put, ap_oif, ap_ret, ap_drop, ap_raise, ap_gN, ap_gT, ap_gsN, ap_gsC, ap_app, Res.bind_ok, Res.bind_exc, Res.of_some, exOut_ok, exOut_exc, wipeE, Option.bind_some, List.length_cons, List.length_nil, List.getElem?_cons_zero, List.getElem?_cons_succ, List.set_cons_zero, List.set_cons_succ, List.map_cons, List.map_nil, add_ii, sub_ii, cmpI, negD, modD, ap_lenL, ap_lenT, intD, int1, int2, walkD, if_true, if_false, decide_eq_true_eq, Bool.false_eq_true, reduceIte, Nat.reduceAdd, Nat.reduceSub, List.replicate_succ, List.replicate_zero, List.cons_append, List.nil_append, s1, s2, z1, z2, b1, a3]
    · exact ⟨by omega, by omega, by omega, by omega, by omega, by omega⟩
end K48

namespace K48
open PySem PySem.Spec L2 DL
theorem s_abx : (("abx cz" : String) : Str) = txS [97, 98, 120, 32, 99, 122] := by decide +kernel
theorem s_q : (("?" : String) : Str) = txS [63] := by decide +kernel
theorem pick6x (l : Nat) (h : l < 6) : ∃ c ∈ [97, 98, 120, 32, 99, 122], ixD (.str ("abx cz" : String)) (.int (l : Int)) = some (.str (txS [c])) := by
  rw [s_abx]
  have z : [97, 98, 120, 32, 99, 122].length ≤ sizeLine := sz_ge (by decide)
  match l, h with
  | 0, _ => exact ⟨97, by decide, ix_str (n := 0) z rfl⟩
  | 1, _ => exact ⟨98, by decide, ix_str (n := 1) z rfl⟩
  | 2, _ => exact ⟨120, by decide, ix_str (n := 2) z rfl⟩
  | 3, _ => exact ⟨32, by decide, ix_str (n := 3) z rfl⟩
  | 4, _ => exact ⟨99, by decide, ix_str (n := 4) z rfl⟩
  | 5, _ => exact ⟨122, by decide, ix_str (n := 5) z rfl⟩
theorem pick4m {w : List Nat} (hw : w.length ≤ 30) (lo : Lo w) (l : Nat) (h : l < 4) : ∃ e, Lo e ∧ e.length ≤ 30 ∧ ixD (.list [.str ("a" : String), .str ("b" : String), .str ("?" : String), .str (txS w)]) (.int (l : Int)) = some (.str (txS e)) := by
  rw [s_a, s_b, s_q]
  match l, h with
  | 0, _ => exact ⟨[97], by unfold Lo; decide, by decide, ix_nat (n := 0) rfl⟩
  | 1, _ => exact ⟨[98], by unfold Lo; decide, by decide, ix_nat (n := 1) rfl⟩
  | 2, _ => exact ⟨[63], by unfold Lo; decide, by decide, ix_nat (n := 2) rfl⟩
  | 3, _ => exact ⟨w, lo, hw, ix_nat (n := 3) rfl⟩
theorem lword_ok {xs : List Int} (hx : 0 < xs.length) {at' : Int} {hs : Ho} (hb : HB hs) (hlo : ∀ p ∈ hs, Lo p.2) {most : Nat} (hm : 0 < most ∧ most ≤ 30) : ∃ w, m__law_word [li xs, .int at', hD hs, .int most] = .ok (.str (txS w)) ∧ w.length ≤ 60 ∧ Lo w := by
  suffices H : ∃ x, o__law_word [some (li xs), some (.int at'), some (hD hs), some (.int most), none, none, none, none, none, none, none] = x ∧ ∃ w, x = .rt (.str (txS w)) ∧ w.length ≤ 60 ∧ Lo w by
    obtain ⟨x, h0, w, h1, h2⟩ := H
    exact ⟨w, run_rt (h0.trans h1), h2⟩
  have z0 : 0 ≤ sizeLine := sz_ge (by omega)
  have z4 : 4 ≤ sizeLine := sz_ge (by omega)
  have p3 : (0 : Int) < 3 := by decide
  have p4 : (0 : Int) < 4 := by decide
  obtain ⟨v, _, hv⟩ := drawn_ok (a := at') hx
  refine seq_ex (e := [some (li xs), some (.int at'), some (hD hs), some (.int most), some (.int v), none, none, none, none, none, none]) ?_ ?_
  · simp only [ap_var, ap_c, ap_m1, ap_m2, ap_m3, ap_part, ap_nopart, ap_if, ap_isN, ap_notN, ap_list, ap_tup, ap_nil, ap_cons, ap_cb, ap_m1m, ap_chain, ap_isi, ap_mB, ap_asB, ap_and, ap_or, ap_not, ap_yes, ap_call, ap_lc, ap_noX, ap_iseq, ap_iown, ap_seq, th_nx, th_rt, th_exc, ap_skip, ap_set, ap_asg, ap_aug, ap_lm, ap_put, ap_oif, ap_ret, ap_drop, ap_raise, ap_gN, ap_gT, ap_gsN, ap_gsC, ap_app, Res.bind_ok, Res.bind_exc, Res.of_some, exOut_ok, exOut_exc, wipeE, Option.bind_some, List.length_cons, List.length_nil, List.getElem?_cons_zero, List.getElem?_cons_succ, List.set_cons_zero, List.set_cons_succ, List.map_cons, List.map_nil, add_ii, sub_ii, cmpI, negD, modD, ap_lenL, ap_lenT, intD, int1, int2, walkD, if_true, if_false, decide_eq_true_eq, Bool.false_eq_true, reduceIte, Nat.reduceAdd, Nat.reduceSub, List.replicate_succ, List.replicate_zero, List.cons_append, List.nil_append, hv]
  have d9 := fdiv_ok (a := v) (n := 9) (by omega)
  have d27 := fdiv_ok (a := v) (n := 27) (by omega)
  rw [show ((9 : Nat) : Int) = 9 from rfl] at d9
  rw [show ((27 : Nat) : Int) = 27 from rfl] at d27
  obtain ⟨n5, hn5, hn5'⟩ := mod_ok (v / 9) (n := 5) (by omega)
  rw [show ((5 : Nat) : Int) = 5 from rfl] at hn5'
  obtain ⟨U, hU, hU1, hU2, _⟩ := rjoin (mi := iRange (aCons (m2 modD (mCB intD (aCons (m2 fdivD (mVar 4) (mC (.int 9))) aNil)) (mC (.int 5))) aNil)) (v := 9) (vs := [9]) (m := m2 ixD (mC (.str ("abx cz" : String))) (m2 modD (mCB intD (aCons (mCall m__law_drawn (aCons (mVar 0) (aCons (m2 addD (m2 addD (mVar 1) (mC (.int 1))) (mVar 9)) aNil))) aNil)) (mC (.int 6)))) (env := [some (li xs), some (.int at'), some (hD hs), some (.int most), some (.int v), none, none, none, none, none, none]) (n := n5) (cs := [97, 98, 120, 32, 99, 122])
    (irange_ok (l := [.int n5]) (by
      simp only [ap_m2, ap_cons, ap_nil, ap_c, ap_var, ap_cb, intD, Res.bind_ok, Res.of_some, List.getElem?_cons_zero, List.getElem?_cons_succ, d9, hn5']) (range1 (by omega))) (by omega) (by unfold Lo; decide) (fun k _ => by
      obtain ⟨u, _, hu⟩ := drawn_ok (a := at' + 1 + (0 + (k : Int))) hx
      obtain ⟨i, hi, hi'⟩ := mod_ok u (n := 6) (by omega)
      rw [show ((6 : Nat) : Int) = 6 from rfl] at hi'
      obtain ⟨c, hc, hc'⟩ := pick6x i hi
      refine ⟨c, hc, ?_⟩
      simp only [ap_m2, ap_cons, ap_nil, ap_c, ap_var, ap_cb, ap_call, intD, add_ii, wipeE, List.set_cons_zero, List.set_cons_succ, Res.bind_ok, Res.of_some, List.getElem?_cons_zero, List.getElem?_cons_succ, hu, hi', hc'])
  refine seq_ex (e := [some (li xs), some (.int at'), some (hD hs), some (.int most), some (.int v), some (.str (txS U)), none, none, none, none, none]) ((set_ok hU).trans rfl) ?_
  obtain ⟨F, hF⟩ : ∃ F, F = hs.filter (fun p => !decide (p.2 = [])) := ⟨_, rfl⟩
  have hFm : ∀ p ∈ F, p ∈ hs ∧ 0 < p.2.length := by
    intro p hp
    rw [hF, List.mem_filter] at hp
    refine ⟨hp.1, List.length_pos_iff.mpr ?_⟩
    simpa using hp.2
  have hFl : F.length ≤ 100 := by
    rw [hF]
    exact Nat.le_trans (List.length_filter_le _ _) hb.1
  have hlc : (mLc (iSeq (mVar 2)) (gT' 2 (gsC (gN 10) (gsC (gN 7) gsN))) (mB (m2 neD (mVar 7) (mC (.str ("" : String))))) (mVar 7) [10, 7]) [some (li xs), some (.int at'), some (hD hs), some (.int most), some (.int v), some (.str (txS U)), none, none, none, none, none] = .ok (.list (F.map fun p => .str (txS p.2))) := by
    have h1 := lcG_map (g := gT' 2 (gsC (gN 10) (gsC (gN 7) gsN))) (nc := mB (m2 neD (mVar 7) (mC (.str ("" : String))))) (m := mVar 7) (env := [some (li xs), some (.int at'), some (hD hs), some (.int most), some (.int v), some (.str (txS U)), none, none, none, none, none]) enD (fun p => !decide (p.2 = [])) (fun p => .str (txS p.2)) hs (fun p _ => ⟨_, rfl, b_ok (m2_ok (f := neD) (mb := mC (.str ("" : String))) (var_ok rfl) ap_c (by rw [s_e]; exact ne_txt p.2 [])), fun _ => var_ok rfl⟩)
    rw [← hF] at h1
    have h2 : iSeq (mVar 2) [some (li xs), some (.int at'), some (hD hs), some (.int most), some (.int v), some (.str (txS U)), none, none, none, none, none] = .ok (hs.map enD) := rfl
    have h3 : wipeE [some (li xs), some (.int at'), some (hD hs), some (.int most), some (.int v), some (.str (txS U)), none, none, none, none, none] [10, 7] = [some (li xs), some (.int at'), some (hD hs), some (.int most), some (.int v), some (.str (txS U)), none, none, none, none, none] := rfl
    rw [ap_lc, h2, Res.bind_ok, h3, h1, ap_noX, Res.bind_ok, if_pos (sz_ge (by simp; omega))]
  refine seq_ex (e := [some (li xs), some (.int at'), some (hD hs), some (.int most), some (.int v), some (.str (txS U)), some (.list (F.map fun p => .str (txS p.2))), none, none, none, none]) ((set_ok hlc).trans rfl) ?_
  have hsh : SeqAt.shaped (.list (F.map fun p => PyData.str (txS p.2))) = true := by
    refine (Sm.list (w := 100) (dp := 0) (ds := F.map fun p => PyData.str (txS p.2)) ?_).shaped (by omega)
    intro d hd
    obtain ⟨p, hp, rfl⟩ := List.mem_map.mp hd
    exact (Sm.str (strOk_low (hlo p (hFm p hp).1))).mono (by rw [txS_length]; exact hb.2.1 p (hFm p hp).1) (by omega)
  have hnil := neD_nil hsh
  obtain ⟨r3, hm3, hm3'⟩ := mod_nat v (n := 3) (by omega)
  rw [show ((3 : Nat) : Int) = 3 from rfl] at hm3
  suffices HH : ∃ (W : List Nat) (j7 j8 : Option D), W.length ≤ 60 ∧ Lo W ∧ (oIf (bAnd (mB (m2 neD (mVar 6) (mList aNil))) (mB (m2 gtI (m2 modD (mCB intD (aCons (mVar 4) aNil)) (mC (.int 3))) (mC (.int 0))))) (oSeq (oSet 7 (m2 ixD (mVar 6) (m2 modD (mCB intD (aCons (mCall m__law_drawn (aCons (mVar 0) (aCons (m2 addD (mVar 1) (mC (.int 7))) aNil))) aNil)) (mCB lenD (aCons (mVar 6) aNil))))) (oSeq (oSet 8 (m2 modD (mCB intD (aCons (mCall m__law_drawn (aCons (mVar 0) (aCons (m2 addD (mVar 1) (mC (.int 8))) aNil))) aNil)) (mCB lenD (aCons (mVar 7) aNil)))) (oSeq (oSet 5 (m3 slD (mVar 7) (mPart (mVar 8)) (mPart (m2 addD (m2 addD (mVar 8) (mC (.int 1))) (m2 modD (mCB intD (aCons (mCall m__law_drawn (aCons (mVar 0) (aCons (m2 addD (mVar 1) (mC (.int 9))) aNil))) aNil)) (mVar 3)))))) (oSeq (oIf (mB (m2 eqD (m2 modD (mCB intD (aCons (mVar 4) aNil)) (mC (.int 3))) (mC (.int 2)))) (oSet 5 (m2 addD (mVar 5) (m2 ixD (mList (aCons (mC (.str ("a" : String))) (aCons (mC (.str ("b" : String))) (aCons (mC (.str ("?" : String))) (aCons (mVar 5) aNil))))) (m2 modD (mCB intD (aCons (m2 fdivD (mVar 4) (mC (.int 27))) aNil)) (mC (.int 4)))))) oSkip) oSkip)))) oSkip) [some (li xs), some (.int at'), some (hD hs), some (.int most), some (.int v), some (.str (txS U)), some (.list (F.map fun p => .str (txS p.2))), none, none, none, none] = .nx [some (li xs), some (.int at'), some (hD hs), some (.int most), some (.int v), some (.str (txS W)), some (.list (F.map fun p => .str (txS p.2))), j7, j8, none, none] by
    obtain ⟨W, j7, j8, w1, w2, w3⟩ := HH
    refine seq_ex w3 ?_
    have hs60 := sl_to (t := W) (a := 60) (sz_ge (by omega))
    rw [show ((60 : Nat) : Int) = 60 from rfl] at hs60
    refine ⟨.rt (.str (txS (W.take 60))), ?_, _, rfl, by rw [List.length_take]; omega, w2.take _⟩
    simp only [ap_var, ap_c, ap_m1, ap_m2, ap_m3, ap_part, ap_nopart, ap_if, ap_isN, ap_notN, ap_list, ap_tup, ap_nil, ap_cons, ap_cb, ap_m1m, ap_chain, ap_isi, ap_mB, ap_asB, ap_and, ap_or, ap_not, ap_yes, ap_call, ap_lc, ap_noX, ap_iseq, ap_iown, ap_seq, th_nx, th_rt, th_exc, ap_skip, ap_set, ap_asg, ap_aug, ap_lm, ap_put, ap_oif, ap_ret, ap_drop, ap_raise, ap_gN, ap_gT, ap_gsN, ap_gsC, ap_app, Res.bind_ok, Res.bind_exc, Res.of_some, exOut_ok, exOut_exc, wipeE, Option.bind_some, List.length_cons, List.length_nil, List.getElem?_cons_zero, List.getElem?_cons_succ, List.set_cons_zero, List.set_cons_succ, List.map_cons, List.map_nil, add_ii, sub_ii, cmpI, negD, modD, ap_lenL, ap_lenT, intD, int1, int2, walkD, if_true, if_false, decide_eq_true_eq, Bool.false_eq_true, reduceIte, Nat.reduceAdd, Nat.reduceSub, List.replicate_succ, List.replicate_zero, List.cons_append, List.nil_append, hs60]
  by_cases c : F ≠ [] ∧ 0 < r3
  · obtain ⟨c1, c2⟩ := c
    have hFp : 0 < F.length := List.length_pos_iff.mpr c1
    have hFp' : (0 : Int) < (F.length : Int) := by omega
    have hem : (F.map fun p => PyData.str (txS p.2)).isEmpty = false := by cases F with | nil => exact absurd rfl c1 | cons _ _ => rfl
    rw [hem] at hnil
    have c2' : (0 : Int) < (r3 : Int) := by omega
    obtain ⟨u7, _, hu7⟩ := drawn_ok (a := at' + 7) hx
    obtain ⟨u8, _, hu8⟩ := drawn_ok (a := at' + 8) hx
    obtain ⟨u9, _, hu9⟩ := drawn_ok (a := at' + 9) hx
    obtain ⟨k, hk, hk2⟩ := mod_nat u7 hFp
    obtain ⟨p, hp⟩ : ∃ p, F[k]? = some p := ⟨_, List.getElem?_eq_getElem hk2⟩
    obtain ⟨hpm, hp0⟩ := hFm p (List.mem_of_getElem? hp)
    have hpl := hb.2.1 p hpm
    have hp0' : (0 : Int) < (p.2.length : Int) := by omega
    have lp := ap_lenS (xs := p.2) (sz_ge (by omega))
    have xk : ixD (.list (F.map fun p => PyData.str (txS p.2))) (.int (k : Int)) = some (.str (txS p.2)) := ix_nat (by rw [List.getElem?_map, hp]; rfl)
    obtain ⟨a, ha, ha2⟩ := mod_nat u8 hp0
    obtain ⟨l, hl, hl2⟩ := mod_nat u9 hm.1
    have hm' : (0 : Int) < (most : Int) := by omega
    have hsl := sl_both (t := p.2) (a := a) (b := a + 1 + l) (sz_ge (by omega)) (by omega)
    rw [show ((a + 1 + l : Nat) : Int) = (a : Int) + 1 + (l : Int) by omega, show a + 1 + l - a = 1 + l by omega] at hsl
    obtain ⟨W, hW⟩ : ∃ W, W = (p.2.drop a).take (1 + l) := ⟨_, rfl⟩
    rw [← hW] at hsl
    have hWl : W.length ≤ 30 := by rw [hW, List.length_take]; omega
    have hWo : Lo W := by rw [hW]; exact ((hlo p hpm).drop _).take _
    have ecnd : (bAnd (mB (m2 neD (mVar 6) (mList aNil))) (mB (m2 gtI (m2 modD (mCB intD (aCons (mVar 4) aNil)) (mC (.int 3))) (mC (.int 0))))) [some (li xs), some (.int at'), some (hD hs), some (.int most), some (.int v), some (.str (txS U)), some (.list (F.map fun p => .str (txS p.2))), none, none, none, none] = .ok true := by
      generalize (F.map fun p => PyData.str (txS p.2)) = FL at hnil
      simp only [ap_var, ap_c, ap_m1, ap_m2, ap_m3, ap_part, ap_nopart, ap_if, ap_isN, ap_notN, ap_list, ap_tup, ap_nil, ap_cons, ap_cb, ap_m1m, ap_chain, ap_isi, ap_mB, ap_asB, ap_and, ap_or, ap_not, ap_yes, ap_call, ap_lc, ap_noX, ap_iseq, ap_iown, ap_seq, th_nx, th_rt, th_exc, ap_skip, ap_set, ap_asg, ap_aug, ap_lm, ap_put, ap_oif, ap_ret, ap_drop, ap_raise, ap_gN, ap_gT, ap_gsN, ap_gsC, ap_app, Res.bind_ok, Res.bind_exc, Res.of_some, exOut_ok, exOut_exc, wipeE, Option.bind_some, List.length_cons, List.length_nil, List.getElem?_cons_zero, List.getElem?_cons_succ, List.set_cons_zero, List.set_cons_succ, List.map_cons, List.map_nil, add_ii, sub_ii, cmpI, negD, modD, ap_lenL, ap_lenT, intD, int1, int2, walkD, if_true, if_false, decide_eq_true_eq, Bool.false_eq_true, reduceIte, Nat.reduceAdd, Nat.reduceSub, List.replicate_succ, List.replicate_zero, List.cons_append, List.nil_append, z0, hnil, Bool.not_false, p3, hm3, c2', decide_true]
    have hlenF : (F.map fun p => PyData.str (txS p.2)).length = F.length := by simp
    rw [oif_t ecnd]
    have st1 : ∀ o2, oSeq (oSet 7 (m2 ixD (mVar 6) (m2 modD (mCB intD (aCons (mCall m__law_drawn (aCons (mVar 0) (aCons (m2 addD (mVar 1) (mC (.int 7))) aNil))) aNil)) (mCB lenD (aCons (mVar 6) aNil))))) o2 [some (li xs), some (.int at'), some (hD hs), some (.int most), some (.int v), some (.str (txS U)), some (.list (F.map fun p => .str (txS p.2))), none, none, none, none] = o2 [some (li xs), some (.int at'), some (hD hs), some (.int most), some (.int v), some (.str (txS U)), some (.list (F.map fun p => .str (txS p.2))), some (.str (txS p.2)), none, none, none] := fun o2 => by
      generalize (F.map fun p => PyData.str (txS p.2)) = FL at xk hlenF
      refine seq_nx ?_ rfl
      simp only [ap_var, ap_c, ap_m1, ap_m2, ap_m3, ap_part, ap_nopart, ap_if, ap_isN, ap_notN, ap_list, ap_tup, ap_nil, ap_cons, ap_cb, ap_m1m, ap_chain, ap_isi, ap_mB, ap_asB, ap_and, ap_or, ap_not, ap_yes, ap_call, ap_lc, ap_noX, ap_iseq, ap_iown, ap_seq, th_nx, th_rt, th_exc, ap_skip, ap_set, ap_asg, ap_aug, ap_lm, ap_put, ap_oif, ap_ret, ap_drop, ap_raise, ap_gN, ap_gT, ap_gsN, ap_gsC, ap_app, Res.bind_ok, Res.bind_exc, Res.of_some, exOut_ok, exOut_exc, wipeE, Option.bind_some, List.length_cons, List.length_nil, List.getElem?_cons_zero, List.getElem?_cons_succ, List.set_cons_zero, List.set_cons_succ, List.map_cons, List.map_nil, add_ii, sub_ii, cmpI, negD, modD, ap_lenL, ap_lenT, intD, int1, int2, walkD, if_true, if_false, decide_eq_true_eq, Bool.false_eq_true, reduceIte, Nat.reduceAdd, Nat.reduceSub, List.replicate_succ, List.replicate_zero, List.cons_append, List.nil_append, hu7, hlenF, hFp', hk, xk]
    have st2 : ∀ o2, oSeq (oSet 8 (m2 modD (mCB intD (aCons (mCall m__law_drawn (aCons (mVar 0) (aCons (m2 addD (mVar 1) (mC (.int 8))) aNil))) aNil)) (mCB lenD (aCons (mVar 7) aNil)))) o2 [some (li xs), some (.int at'), some (hD hs), some (.int most), some (.int v), some (.str (txS U)), some (.list (F.map fun p => .str (txS p.2))), some (.str (txS p.2)), none, none, none] = o2 [some (li xs), some (.int at'), some (hD hs), some (.int most), some (.int v), some (.str (txS U)), some (.list (F.map fun p => .str (txS p.2))), some (.str (txS p.2)), some (.int a), none, none] := fun o2 => by
      refine seq_nx ?_ rfl
      simp only [ap_var, ap_c, ap_m1, ap_m2, ap_m3, ap_part, ap_nopart, ap_if, ap_isN, ap_notN, ap_list, ap_tup, ap_nil, ap_cons, ap_cb, ap_m1m, ap_chain, ap_isi, ap_mB, ap_asB, ap_and, ap_or, ap_not, ap_yes, ap_call, ap_lc, ap_noX, ap_iseq, ap_iown, ap_seq, th_nx, th_rt, th_exc, ap_skip, ap_set, ap_asg, ap_aug, ap_lm, ap_put, ap_oif, ap_ret, ap_drop, ap_raise, ap_gN, ap_gT, ap_gsN, ap_gsC, ap_app, Res.bind_ok, Res.bind_exc, Res.of_some, exOut_ok, exOut_exc, wipeE, Option.bind_some, List.length_cons, List.length_nil, List.getElem?_cons_zero, List.getElem?_cons_succ, List.set_cons_zero, List.set_cons_succ, List.map_cons, List.map_nil, add_ii, sub_ii, cmpI, negD, modD, ap_lenL, ap_lenT, intD, int1, int2, walkD, if_true, if_false, decide_eq_true_eq, Bool.false_eq_true, reduceIte, Nat.reduceAdd, Nat.reduceSub, List.replicate_succ, List.replicate_zero, List.cons_append, List.nil_append, hu8, lp, hp0', ha]
    have st3 : ∀ o2, oSeq (oSet 5 (m3 slD (mVar 7) (mPart (mVar 8)) (mPart (m2 addD (m2 addD (mVar 8) (mC (.int 1))) (m2 modD (mCB intD (aCons (mCall m__law_drawn (aCons (mVar 0) (aCons (m2 addD (mVar 1) (mC (.int 9))) aNil))) aNil)) (mVar 3)))))) o2 [some (li xs), some (.int at'), some (hD hs), some (.int most), some (.int v), some (.str (txS U)), some (.list (F.map fun p => .str (txS p.2))), some (.str (txS p.2)), some (.int a), none, none] = o2 [some (li xs), some (.int at'), some (hD hs), some (.int most), some (.int v), some (.str (txS W)), some (.list (F.map fun p => .str (txS p.2))), some (.str (txS p.2)), some (.int a), none, none] := fun o2 => by
      refine seq_nx ?_ rfl
      simp only [ap_var, ap_c, ap_m1, ap_m2, ap_m3, ap_part, ap_nopart, ap_if, ap_isN, ap_notN, ap_list, ap_tup, ap_nil, ap_cons, ap_cb, ap_m1m, ap_chain, ap_isi, ap_mB, ap_asB, ap_and, ap_or, ap_not, ap_yes, ap_call, ap_lc, ap_noX, ap_iseq, ap_iown, ap_seq, th_nx, th_rt, th_exc, ap_skip, ap_set, ap_asg, ap_aug, ap_lm, ap_put, ap_oif, ap_ret, ap_drop, ap_raise, ap_gN, ap_gT, ap_gsN, ap_gsC, ap_app, Res.bind_ok, Res.bind_exc, Res.of_some, exOut_ok, exOut_exc, wipeE, Option.bind_some, List.length_cons, List.length_nil, List.getElem?_cons_zero, List.getElem?_cons_succ, List.set_cons_zero, List.set_cons_succ, List.map_cons, List.map_nil, add_ii, sub_ii, cmpI, negD, modD, ap_lenL, ap_lenT, intD, int1, int2, walkD, if_true, if_false, decide_eq_true_eq, Bool.false_eq_true, reduceIte, Nat.reduceAdd, Nat.reduceSub, List.replicate_succ, List.replicate_zero, List.cons_append, List.nil_append, hu9, hm', hl, hsl]
    rw [st1, st2, st3]
    by_cases c3 : r3 = 2
    · have q : eqD (.int (r3 : Int)) (.int 2) = some (.bool true) := eqi (decide_eq_true (by omega))
      obtain ⟨l4, hl4, hl4'⟩ := mod_nat (v / 27) (n := 4) (by omega)
      rw [show ((4 : Nat) : Int) = 4 from rfl] at hl4
      obtain ⟨E, e1, e2, e3⟩ := pick4m hWl hWo l4 hl4'
      have hadd : addD (.str (txS W)) (.str (txS E)) = some (.str (txS (W ++ E))) := by
        rw [add_str (sz_ge (by rw [txS_length, txS_length]; omega)), txS_append]
      refine ⟨W ++ E, some (.str (txS p.2)), some (.int a), by rw [List.length_append]; omega, hWo.app e1, ?_⟩
      simp only [ap_var, ap_c, ap_m1, ap_m2, ap_m3, ap_part, ap_nopart, ap_if, ap_isN, ap_notN, ap_list, ap_tup, ap_nil, ap_cons, ap_cb, ap_m1m, ap_chain, ap_isi, ap_mB, ap_asB, ap_and, ap_or, ap_not, ap_yes, ap_call, ap_lc, ap_noX, ap_iseq, ap_iown, ap_seq, th_nx, th_rt, th_exc, ap_skip, ap_set, ap_asg, ap_aug, ap_lm, ap_put, ap_oif, ap_ret, ap_drop, ap_raise, ap_gN, ap_gT, ap_gsN, ap_gsC, ap_app, Res.bind_ok, Res.bind_exc, Res.of_some, exOut_ok, exOut_exc, wipeE, Option.bind_some, List.length_cons, List.length_nil, List.getElem?_cons_zero, List.getElem?_cons_succ, List.set_cons_zero, List.set_cons_succ, List.map_cons, List.map_nil, add_ii, sub_ii, cmpI, negD, modD, ap_lenL, ap_lenT, intD, int1, int2, walkD, if_true, if_false, decide_eq_true_eq, Bool.false_eq_true, reduceIte, Nat.reduceAdd, Nat.reduceSub, List.replicate_succ, List.replicate_zero, List.cons_append, List.nil_append, p3, hm3, q, z4, d27, p4, hl4, e3, hadd]
    · have q : eqD (.int (r3 : Int)) (.int 2) = some (.bool false) := eqi (decide_eq_false (by omega))
      refine ⟨W, some (.str (txS p.2)), some (.int a), by omega, hWo, ?_⟩
      simp only [ap_var, ap_c, ap_m1, ap_m2, ap_m3, ap_part, ap_nopart, ap_if, ap_isN, ap_notN, ap_list, ap_tup, ap_nil, ap_cons, ap_cb, ap_m1m, ap_chain, ap_isi, ap_mB, ap_asB, ap_and, ap_or, ap_not, ap_yes, ap_call, ap_lc, ap_noX, ap_iseq, ap_iown, ap_seq, th_nx, th_rt, th_exc, ap_skip, ap_set, ap_asg, ap_aug, ap_lm, ap_put, ap_oif, ap_ret, ap_drop, ap_raise, ap_gN, ap_gT, ap_gsN, ap_gsC, ap_app, Res.bind_ok, Res.bind_exc, Res.of_some, exOut_ok, exOut_exc, wipeE, Option.bind_some, List.length_cons, List.length_nil, List.getElem?_cons_zero, List.getElem?_cons_succ, List.set_cons_zero, List.set_cons_succ, List.map_cons, List.map_nil, add_ii, sub_ii, cmpI, negD, modD, ap_lenL, ap_lenT, intD, int1, int2, walkD, if_true, if_false, decide_eq_true_eq, Bool.false_eq_true, reduceIte, Nat.reduceAdd, Nat.reduceSub, List.replicate_succ, List.replicate_zero, List.cons_append, List.nil_append, p3, hm3, q]
  · refine ⟨U, none, none, by omega, hU2, ?_⟩
    have ecnd : (bAnd (mB (m2 neD (mVar 6) (mList aNil))) (mB (m2 gtI (m2 modD (mCB intD (aCons (mVar 4) aNil)) (mC (.int 3))) (mC (.int 0))))) [some (li xs), some (.int at'), some (hD hs), some (.int most), some (.int v), some (.str (txS U)), some (.list (F.map fun p => .str (txS p.2))), none, none, none, none] = .ok false := by
      by_cases c1 : F = []
      · have hem : (F.map fun p => PyData.str (txS p.2)).isEmpty = true := by rw [c1]; rfl
        rw [hem] at hnil
        generalize (F.map fun p => PyData.str (txS p.2)) = FL at hnil
        simp only [ap_var, ap_c, ap_m1, ap_m2, ap_m3, ap_part, ap_nopart, ap_if, ap_isN, ap_notN, ap_list, ap_tup, ap_nil, ap_cons, ap_cb, ap_m1m, ap_chain, ap_isi, ap_mB, ap_asB, ap_and, ap_or, ap_not, ap_yes, ap_call, ap_lc, ap_noX, ap_iseq, ap_iown, ap_seq, th_nx, th_rt, th_exc, ap_skip, ap_set, ap_asg, ap_aug, ap_lm, ap_put, ap_oif, ap_ret, ap_drop, ap_raise, ap_gN, ap_gT, ap_gsN, ap_gsC, ap_app, Res.bind_ok, Res.bind_exc, Res.of_some, exOut_ok, exOut_exc, wipeE, Option.bind_some, List.length_cons, List.length_nil, List.getElem?_cons_zero, List.getElem?_cons_succ, List.set_cons_zero, List.set_cons_succ, List.map_cons, List.map_nil, add_ii, sub_ii, cmpI, negD, modD, ap_lenL, ap_lenT, intD, int1, int2, walkD, if_true, if_false, decide_eq_true_eq, Bool.false_eq_true, reduceIte, Nat.reduceAdd, Nat.reduceSub, List.replicate_succ, List.replicate_zero, List.cons_append, List.nil_append, z0, hnil, Bool.not_true]
      · have c2 : ¬ (0 : Int) < (r3 : Int) := by have : ¬ 0 < r3 := fun z => c ⟨c1, z⟩; omega
        have hem : (F.map fun p => PyData.str (txS p.2)).isEmpty = false := by cases F with | nil => exact absurd rfl c1 | cons _ _ => rfl
        rw [hem] at hnil
        generalize (F.map fun p => PyData.str (txS p.2)) = FL at hnil
        simp only [ap_var, ap_c, ap_m1, ap_m2, ap_m3, ap_part, ap_nopart, ap_if, ap_isN, ap_notN, ap_list, ap_tup, ap_nil, ap_cons, ap_cb, ap_m1m, ap_chain, ap_isi, ap_mB, ap_asB, ap_and, ap_or, ap_not, ap_yes, ap_call, ap_lc, ap_noX, ap_iseq, ap_iown, ap_seq, th_nx, th_rt, th_exc, ap_skip, ap_set, ap_asg, ap_aug, ap_lm, ap_put, ap_oif, ap_ret, ap_drop, ap_raise, ap_gN, ap_gT, ap_gsN, ap_gsC, ap_app, Res.bind_ok, Res.bind_exc, Res.of_some, exOut_ok, exOut_exc, wipeE, Option.bind_some, List.length_cons, List.length_nil, List.getElem?_cons_zero, List.getElem?_cons_succ, List.set_cons_zero, List.set_cons_succ, List.map_cons, List.map_nil, add_ii, sub_ii, cmpI, negD, modD, ap_lenL, ap_lenT, intD, int1, int2, walkD, if_true, if_false, decide_eq_true_eq, Bool.false_eq_true, reduceIte, Nat.reduceAdd, Nat.reduceSub, List.replicate_succ, List.replicate_zero, List.cons_append, List.nil_append, z0, hnil, Bool.not_false, p3, hm3, c2, decide_false]
    rw [oif_f ecnd]
    rfl
end K48

namespace K48
open PySem PySem.Spec L2 DL
theorem sm_ho {hs : Ho} (hb : HB hs) (hlo : ∀ p ∈ hs, Lo p.2) : Sm (501 * hs.length) 2 (hD hs) := by
  have := Sm.list (w := 500) (dp := 1) (ds := hs.map enD) (by
    intro d hd
    obtain ⟨p, hp, rfl⟩ := List.mem_map.mp hd
    have h1 := hb.2.1 p hp
    have h2 := hb.2.2 p hp
    have h3 := Sm.tuple (w := 100) (dp := 0) (ds := [.int p.1, .str (txS p.2)]) (by
      intro d hd
      simp only [List.mem_cons, List.not_mem_nil, or_false] at hd
      rcases hd with rfl | rfl
      · exact (Sm.int (n := p.1) (by omega)).mono (by omega) (by omega)
      · exact (Sm.str (strOk_low (hlo p hp))).mono (by rw [txS_length]; exact h1) (by omega))
    exact h3.mono (by simp) (by omega))
  exact this.mono (by simp) (by omega)
theorem repr_of {w dp : Nat} {d : D} (h : Sm w dp d) (hw : w ≤ 1048576) (hd : dp ≤ 64) : ∃ x, reprD [d] = some (.str x) := ⟨_, h.repr hw hd⟩
abbrev Tr := List Pc × List Wi
def tD (t : Tr) : D := .tuple [.list (t.1.map pcD), .list (t.2.map wD)]
structure TG (i : Nat) (t : Tr) : Prop where
  pl : t.1.length ≤ 60 + i
  wl : t.2.length ≤ 60 + i
  pg : ∀ p ∈ t.1, GP (10000 + i) p
  wg : ∀ p ∈ t.2, GW (10000 + i) p
theorem TG.mono {i j : Nat} (h : i ≤ j) {t : Tr} (g : TG i t) : TG j t := ⟨by have := g.pl; omega, by have := g.wl; omega, fun p hp => (g.pg p hp).mono (by omega), fun p hp => (g.wg p hp).mono (by omega)⟩
theorem sm_tr {i : Nat} (hi : i ≤ 20) {t : Tr} (g : TG i t) : Sm 200000 3 (tD t) := by
  have h1 := sm_pcs (by omega) g.pg
  have h2 := sm_wis (by omega) g.wg
  have := g.pl
  have := g.wl
  have h3 := Sm.tuple (w := 40000) (dp := 2) (ds := [.list (t.1.map pcD), .list (t.2.map wD)]) (by
    intro d hd
    simp only [List.mem_cons, List.not_mem_nil, or_false] at hd
    rcases hd with rfl | rfl
    · exact h1.mono (by omega) (by omega)
    · exact h2.mono (by omega) (by omega))
  exact h3.mono (by simp) (by omega)
theorem isi_list {ds : List D} : isiD "list" (.list ds) = some (.bool true) := by
  show (kitB "list" "list").map PyData.bool = _
  exact congrArg (fun o => Option.map PyData.bool o) (by decide +kernel : kitB "list" "list" = some true)
theorem ne_strX (x : Str) : neD (.str x) (.str x) = some (.bool false) := nes (b := true) (decide_eq_true rfl)
theorem neq_natX (n : Nat) : neD (.int (n : Nat)) (.int (n : Nat)) = some (.bool false) := nei (b := true) (decide_eq_true rfl)
theorem pick6n (l : Nat) (h : l < 6) : ∃ T most : Nat, 1 ≤ T ∧ T ≤ 8 ∧ 1 ≤ most ∧ most ≤ 40 ∧ ixD (.list [.int 4, .int 4, .int 4, .int 4, .int 8, .int 1]) (.int (l : Int)) = some (.int T) ∧ ixD (.list [.int 12, .int 12, .int 12, .int 12, .int 5, .int 40]) (.int (l : Int)) = some (.int most) := by
  match l, h with
  | 0, _ => exact ⟨4, 12, by omega, by omega, by omega, by omega, ix_nat (n := 0) rfl, ix_nat (n := 0) rfl⟩
  | 1, _ => exact ⟨4, 12, by omega, by omega, by omega, by omega, ix_nat (n := 1) rfl, ix_nat (n := 1) rfl⟩
  | 2, _ => exact ⟨4, 12, by omega, by omega, by omega, by omega, ix_nat (n := 2) rfl, ix_nat (n := 2) rfl⟩
  | 3, _ => exact ⟨4, 12, by omega, by omega, by omega, by omega, ix_nat (n := 3) rfl, ix_nat (n := 3) rfl⟩
  | 4, _ => exact ⟨8, 5, by omega, by omega, by omega, by omega, ix_nat (n := 4) rfl, ix_nat (n := 4) rfl⟩
  | 5, _ => exact ⟨1, 40, by omega, by omega, by omega, by omega, ix_nat (n := 5) rfl, ix_nat (n := 5) rfl⟩
theorem most2 (b : Bool) : ∃ q : Nat, 0 < q ∧ q ≤ 30 ∧ ixD (.list [.int 9, .int 30]) (.int (if b = true then 1 else 0)) = some (.int q) := by
  cases b with
  | true => exact ⟨30, by omega, by omega, ix_nat (n := 1) rfl⟩
  | false => exact ⟨9, by omega, by omega, ix_nat (n := 0) rfl⟩
theorem mulK {k : Int} (h : -100 < k ∧ k < 100) (a : Nat) : mulG (.int k) (.int (a : Int)) = some (.int (k * (a : Int))) := mul_ok (.inl ⟨by omega, by omega⟩)
theorem grd_good {hs : Ho} (hb : HB hs) {w : List Nat} (hw : w.length ≤ 60) (lo : Lo w) : ∀ (n st : Nat), ∀ p ∈ grF hs w n st, GP 10000 p
  | 0, st, p, hp => by simp [grF] at hp
  | n + 1, st, p, hp => by
    rw [grF] at hp
    split at hp
    · rename_i hst
      rcases List.mem_cons.mp hp with rfl | hp
      · unfold pcA
        split
        · have := get_getD hst
          exact lo _ (List.mem_of_getElem? this)
        · have hle := bst_le hs w st
          rcases bst_fm hs w st with z | ⟨z1, q, hq, z2, z3, z4⟩
          · rename_i c
            rw [z] at c
            exact absurd rfl c
          · have h1 := hb.2.1 q hq
            have h2 := hb.2.2 q hq
            exact ⟨by omega, by omega, by omega, by omega, by omega, by omega⟩
      · exact grd_good hb hw lo n _ p hp
    · simp at hp
theorem grw_good {hs : Ho} {w : List Nat} (hw : w.length ≤ 60) : ∀ (n st : Nat), ∀ p ∈ winF hs w n st, GW 10000 p
  | 0, st, p, hp => by simp [winF] at hp
  | n + 1, st, p, hp => by
    rw [winF] at hp
    split at hp
    · rename_i hst
      rcases List.mem_cons.mp hp with rfl | hp
      · exact ⟨by show -10000 ≤ (st : Int); omega, by show (st : Int) ≤ _; omega, by show -10000 ≤ (nxt hs w st : Int); omega, by show (nxt hs w st : Int) ≤ _; omega⟩
      · exact grw_good hw n _ p hp
    · simp at hp
theorem winF_len (hs : Ho) (w : List Nat) : ∀ (n st : Nat), (winF hs w n st).length ≤ n
  | 0, st => Nat.le_refl _
  | n + 1, st => by
    rw [winF]
    split
    · rw [List.length_cons]
      have := winF_len hs w n (nxt hs w st)
      omega
    · exact Nat.zero_le _
theorem math (ns : List Int) (hl : ns.length ≤ 63) : runD .pl n_law.length o_law [.list (ns.map .int)] = .ok (.bool true) := by
  obtain ⟨xs, h1, h2, _⟩ := numbers_ok 800 (by omega) ns hl
  suffices H : ∃ x, o_law [some (li ns), none, none, none, none, none, none, none, none, none, none, none, none, none, none, none, none] = x ∧ x = .rt (.bool true) by
    obtain ⟨x, h1, rfl⟩ := H
    exact run_rt h1
  have z0 : 0 ≤ sizeLine := sz_ge (by omega)
  have z2 : 2 ≤ sizeLine := sz_ge (by omega)
  have z6 : 6 ≤ sizeLine := sz_ge (by omega)
  have p6 : (0 : Int) < 6 := by decide
  have p2 : (0 : Int) < 2 := by decide
  rw [show ((800 : Nat) : Int) = 800 from rfl] at h1
  refine seq_ex (e := [some (li ns), some (li xs), none, none, none, none, none, none, none, none, none, none, none, none, none, none, none]) ?_ ?_
  · refine (set_ok (call_ok (l := [li ns, .int 800]) ?_ h1)).trans rfl
    simp only [ap_var, ap_c, ap_m1, ap_m2, ap_m3, ap_part, ap_nopart, ap_if, ap_isN, ap_notN, ap_list, ap_tup, ap_nil, ap_cons, ap_cb, ap_m1m, ap_chain, ap_isi, ap_mB, ap_asB, ap_and, ap_or, ap_not, ap_yes, ap_call, ap_lc, ap_noX, ap_iseq, ap_iown, ap_seq, th_nx, th_rt, th_exc, ap_skip, ap_set, ap_asg, ap_aug, ap_lm, ap_put, ap_oif, ap_ret, ap_drop, ap_raise, ap_gN, ap_gT, ap_gsN, ap_gsC, ap_app, Res.bind_ok, Res.bind_exc, Res.of_some, exOut_ok, exOut_exc, wipeE, Option.bind_some, List.length_cons, List.length_nil, List.getElem?_cons_zero, List.getElem?_cons_succ, List.set_cons_zero, List.set_cons_succ, List.map_cons, List.map_nil, add_ii, sub_ii, cmpI, negD, modD, ap_lenL, ap_lenT, intD, int1, int2, walkD, if_true, if_false, decide_eq_true_eq, Bool.false_eq_true, reduceIte, Nat.reduceAdd, Nat.reduceSub, List.replicate_succ, List.replicate_zero, List.cons_append, List.nil_append]
  obtain ⟨v7, hv7⟩ : ∃ v, xs[7]? = some v := ⟨_, List.getElem?_eq_getElem (by omega)⟩
  have x7 := ix_li (i := 7) (n := 7) rfl hv7
  obtain ⟨sh, hsh, hsh'⟩ := mod_nat v7 (n := 6) (by omega)
  rw [show ((6 : Nat) : Int) = 6 from rfl] at hsh
  refine seq_ex (e := [some (li ns), some (li xs), some (.int sh), none, none, none, none, none, none, none, none, none, none, none, none, none, none]) ?_ ?_
  · simp only [ap_var, ap_c, ap_m1, ap_m2, ap_m3, ap_part, ap_nopart, ap_if, ap_isN, ap_notN, ap_list, ap_tup, ap_nil, ap_cons, ap_cb, ap_m1m, ap_chain, ap_isi, ap_mB, ap_asB, ap_and, ap_or, ap_not, ap_yes, ap_call, ap_lc, ap_noX, ap_iseq, ap_iown, ap_seq, th_nx, th_rt, th_exc, ap_skip, ap_set, ap_asg, ap_aug, ap_lm, ap_put, ap_oif, ap_ret, ap_drop, ap_raise, ap_gN, ap_gT, ap_gsN, ap_gsC, ap_app, Res.bind_ok, Res.bind_exc, Res.of_some, exOut_ok, exOut_exc, wipeE, Option.bind_some, List.length_cons, List.length_nil, List.getElem?_cons_zero, List.getElem?_cons_succ, List.set_cons_zero, List.set_cons_succ, List.map_cons, List.map_nil, add_ii, sub_ii, cmpI, negD, modD, ap_lenL, ap_lenT, intD, int1, int2, walkD, if_true, if_false, decide_eq_true_eq, Bool.false_eq_true, reduceIte, Nat.reduceAdd, Nat.reduceSub, List.replicate_succ, List.replicate_zero, List.cons_append, List.nil_append, x7, p6, hsh]
  obtain ⟨TT, most, t1, t2, t3, t4, t5, t6⟩ := pick6n sh hsh'
  obtain ⟨hs, hhs, hg⟩ := house_ok (xs := xs) (by omega) (at' := 10) (T := TT) (most := most) (by omega) (by omega)
  have hb : HB hs := ⟨by have := hg.len; omega, fun p hp => by have := (hg.txt p hp).1; omega, fun p hp => by have := hg.num p hp; omega⟩
  have hlo : ∀ p ∈ hs, Lo p.2 := fun p hp => (hg.txt p hp).2
  have hasc := hg.asc
  refine seq_ex (e := [some (li ns), some (li xs), some (.int sh), some (hD hs), none, none, none, none, none, none, none, none, none, none, none, none, none]) ?_ ?_
  · refine (set_ok (call_ok (l := [li xs, .int 10, .int TT, .int most]) ?_ hhs)).trans rfl
    simp only [ap_var, ap_c, ap_m1, ap_m2, ap_m3, ap_part, ap_nopart, ap_if, ap_isN, ap_notN, ap_list, ap_tup, ap_nil, ap_cons, ap_cb, ap_m1m, ap_chain, ap_isi, ap_mB, ap_asB, ap_and, ap_or, ap_not, ap_yes, ap_call, ap_lc, ap_noX, ap_iseq, ap_iown, ap_seq, th_nx, th_rt, th_exc, ap_skip, ap_set, ap_asg, ap_aug, ap_lm, ap_put, ap_oif, ap_ret, ap_drop, ap_raise, ap_gN, ap_gT, ap_gsN, ap_gsC, ap_app, Res.bind_ok, Res.bind_exc, Res.of_some, exOut_ok, exOut_exc, wipeE, Option.bind_some, List.length_cons, List.length_nil, List.getElem?_cons_zero, List.getElem?_cons_succ, List.set_cons_zero, List.set_cons_succ, List.map_cons, List.map_nil, add_ii, sub_ii, cmpI, negD, modD, ap_lenL, ap_lenT, intD, int1, int2, walkD, if_true, if_false, decide_eq_true_eq, Bool.false_eq_true, reduceIte, Nat.reduceAdd, Nat.reduceSub, List.replicate_succ, List.replicate_zero, List.cons_append, List.nil_append, z6, t5, t6]
  obtain ⟨kept, hk⟩ := repr_of (sm_ho hb hlo) (by have := hb.1; omega) (by omega)
  refine seq_ex (e := [some (li ns), some (li xs), some (.int sh), some (hD hs), some (.str kept), none, none, none, none, none, none, none, none, none, none, none, none]) ?_ ?_
  · simp only [ap_var, ap_c, ap_m1, ap_m2, ap_m3, ap_part, ap_nopart, ap_if, ap_isN, ap_notN, ap_list, ap_tup, ap_nil, ap_cons, ap_cb, ap_m1m, ap_chain, ap_isi, ap_mB, ap_asB, ap_and, ap_or, ap_not, ap_yes, ap_call, ap_lc, ap_noX, ap_iseq, ap_iown, ap_seq, th_nx, th_rt, th_exc, ap_skip, ap_set, ap_asg, ap_aug, ap_lm, ap_put, ap_oif, ap_ret, ap_drop, ap_raise, ap_gN, ap_gT, ap_gsN, ap_gsC, ap_app, Res.bind_ok, Res.bind_exc, Res.of_some, exOut_ok, exOut_exc, wipeE, Option.bind_some, List.length_cons, List.length_nil, List.getElem?_cons_zero, List.getElem?_cons_succ, List.set_cons_zero, List.set_cons_succ, List.map_cons, List.map_nil, add_ii, sub_ii, cmpI, negD, modD, ap_lenL, ap_lenT, intD, int1, int2, walkD, if_true, if_false, decide_eq_true_eq, Bool.false_eq_true, reduceIte, Nat.reduceAdd, Nat.reduceSub, List.replicate_succ, List.replicate_zero, List.cons_append, List.nil_append, hk]
  clear t5 t6 hhs hg hsh x7
  refine seq_for (fun _ e => ∃ j5 j6 j7 j8 j9 j10 j11 j12 j13 j14 j15 j16, e = [some (li ns), some (li xs), some (.int sh), some (hD hs), some (.str kept), j5, j6, j7, j8, j9, j10, j11, j12, j13, j14, j15, j16]) (rng 0 3) ?_ ⟨_, _, _, _, _, _, _, _, _, _, _, _, rfl⟩ ?_ ?_
  · refine irange_ok (l := [.int (3 : Nat)]) ?_ (range1 (by omega))
    simp only [ap_var, ap_c, ap_m1, ap_m2, ap_m3, ap_part, ap_nopart, ap_if, ap_isN, ap_notN, ap_list, ap_tup, ap_nil, ap_cons, ap_cb, ap_m1m, ap_chain, ap_isi, ap_mB, ap_asB, ap_and, ap_or, ap_not, ap_yes, ap_call, ap_lc, ap_noX, ap_iseq, ap_iown, ap_seq, th_nx, th_rt, th_exc, ap_skip, ap_set, ap_asg, ap_aug, ap_lm, ap_put, ap_oif, ap_ret, ap_drop, ap_raise, ap_gN, ap_gT, ap_gsN, ap_gsC, ap_app, Res.bind_ok, Res.bind_exc, Res.of_some, exOut_ok, exOut_exc, wipeE, Option.bind_some, List.length_cons, List.length_nil, List.getElem?_cons_zero, List.getElem?_cons_succ, List.set_cons_zero, List.set_cons_succ, List.map_cons, List.map_nil, add_ii, sub_ii, cmpI, negD, modD, ap_lenL, ap_lenT, intD, int1, int2, walkD, if_true, if_false, decide_eq_true_eq, Bool.false_eq_true, reduceIte, Nat.reduceAdd, Nat.reduceSub, List.replicate_succ, List.replicate_zero, List.cons_append, List.nil_append]
    rfl
  · rintro m d e hd ⟨j5, j6, j7, j8, j9, j10, j11, j12, j13, j14, j15, j16, rfl⟩
    rw [rng_get] at hd
    split at hd <;> cases hd
    rename_i hm3
    rw [Int.zero_add]
    suffices HH : ∃ x, (oSeq (oSet 6 (mC (.str ("" : String)))) (oSeq (oFor (iRange (aCons (m2 modD (mCB intD (aCons (mCall m__law_drawn (aCons (mVar 1) (aCons (m2 addD (mC (.int 450)) (mVar 5)) aNil))) aNil)) (mC (.int 6))) aNil)) (gN 7) (oSeq (oSet 6 (m2 addD (mVar 6) (mCall m__law_word (aCons (mVar 1) (aCons (m2 addD (m2 addD (mC (.int 460)) (m2 mulG (mC (.int 80)) (mVar 5))) (m2 mulG (mC (.int 12)) (mVar 7))) (aCons (mVar 3) (aCons (m2 ixD (mList (aCons (mC (.int 9)) (aCons (mC (.int 30)) aNil))) (mCB intD (aCons (m2 eqD (mVar 2) (mC (.int 5))) aNil))) aNil))))))) oSkip)) (oSeq (oSet 6 (m3 slD (mVar 6) mNoPart (mPart (mC (.int 60))))) (oSeq (oSet 8 (mCall m__law_pieces (aCons (mVar 3) (aCons (mVar 6) aNil)))) (oSeq (oSet 9 (mCall m_cut_word (aCons (mVar 3) (aCons (mVar 6) aNil)))) (oSeq (oSet 10 (mCall m_word_windows (aCons (mVar 3) (aCons (mVar 6) aNil)))) (oSeq (oIf (bOr (bNot (mB (mIsi "list" (mVar 9)))) (bOr (mB (m2 neD (mCB reprD (aCons (mVar 9) aNil)) (mCB reprD (aCons (mVar 8) aNil)))) (bOr (mB (m2 neD (mCB reprD (aCons (mVar 3) aNil)) (mVar 4))) (mB (m2 neD (mCB lenD (aCons (mVar 8) aNil)) (mCall m__law_least (aCons (mVar 3) (aCons (mVar 6) aNil)))))))) (oRet (mC (.bool false))) oSkip) (oSeq (oIf (bOr (bNot (mB (mIsi "list" (mVar 10)))) (bNot (mB (mCall m__law_due (aCons (mVar 3) (aCons (mVar 6) (aCons (mVar 8) (aCons (mVar 10) aNil)))))))) (oRet (mC (.bool false))) oSkip) (oSeq (oLM 9 lApp (aCons (mC (.int 0)) aNil)) (oSeq (oSet 11 (mList (aCons (mTup (aCons (mVar 8) (aCons (mVar 10) aNil))) (aCons (mTup (aCons (mVar 8) (aCons (mList aNil) aNil))) aNil)))) (oSeq (oFor (iRange (aCons (mC (.int 8)) aNil)) (gN 12) (oSeq (oAsg (m2 ixD (mList (aCons (m2 ixD (mVar 11) (mC (.int 0))) (aCons (m2 ixD (mVar 11) (m1 negD (mC (.int 1)))) aNil))) (m2 modD (mCB intD (aCons (mVar 12) aNil)) (mC (.int 2)))) (gT' 2 (gsC (gN 13) (gsC (gN 14) gsN)))) (oSeq (oLM 11 lApp (aCons (mCall m__law_changed (aCons (mVar 1) (aCons (m2 addD (m2 addD (mC (.int 700)) (m2 mulG (mC (.int 2)) (mVar 12))) (m2 mulG (mC (.int 20)) (mVar 5))) (aCons (mVar 13) (aCons (mVar 14) aNil))))) aNil)) oSkip))) (oSeq (oFor (iSeq (mVar 11)) (gT' 2 (gsC (gN 13) (gsC (gN 14) gsN))) (oSeq (oSet 15 (mCB reprD (aCons (mTup (aCons (mVar 13) (aCons (mVar 14) aNil))) aNil))) (oSeq (oSet 16 (mCall m_check_word (aCons (mVar 3) (aCons (mVar 6) (aCons (mVar 13) (aCons (mVar 14) aNil)))))) (oSeq (oIf (bOr (mB (m2 neD (mCB reprD (aCons (mVar 16) aNil)) (mCB reprD (aCons (mCall m__law_due (aCons (mVar 3) (aCons (mVar 6) (aCons (mVar 13) (aCons (mVar 14) aNil))))) aNil)))) (mB (m2 neD (mCB reprD (aCons (mTup (aCons (mVar 13) (aCons (mVar 14) aNil))) aNil)) (mVar 15)))) (oRet (mC (.bool false))) oSkip) oSkip)))) (oSeq (oIf (mB (m2 neD (mCB reprD (aCons (mCall m_cut_word (aCons (mVar 3) (aCons (mVar 6) aNil))) aNil)) (mCB reprD (aCons (mVar 8) aNil)))) (oRet (mC (.bool false))) oSkip) oSkip))))))))))))) [some (li ns), some (li xs), some (.int sh), some (hD hs), some (.str kept), some (.int (m : Int)), j6, j7, j8, j9, j10, j11, j12, j13, j14, j15, j16] = x ∧ ∃ j5 j6 j7 j8 j9 j10 j11 j12 j13 j14 j15 j16, x = .nx [some (li ns), some (li xs), some (.int sh), some (hD hs), some (.str kept), j5, j6, j7, j8, j9, j10, j11, j12, j13, j14, j15, j16] by
      obtain ⟨x, q1, k5, k6, k7, k8, k9, k10, k11, k12, k13, k14, k15, k16, rfl⟩ := HH
      exact ⟨_, _, rfl, q1, _, _, _, _, _, _, _, _, _, _, _, _, rfl⟩
    refine seq_ex (e := [some (li ns), some (li xs), some (.int sh), some (hD hs), some (.str kept), some (.int (m : Int)), some (.str (txS [])), j7, j8, j9, j10, j11, j12, j13, j14, j15, j16]) ?_ ?_
    · rw [s_e]
      simp only [ap_var, ap_c, ap_m1, ap_m2, ap_m3, ap_part, ap_nopart, ap_if, ap_isN, ap_notN, ap_list, ap_tup, ap_nil, ap_cons, ap_cb, ap_m1m, ap_chain, ap_isi, ap_mB, ap_asB, ap_and, ap_or, ap_not, ap_yes, ap_call, ap_lc, ap_noX, ap_iseq, ap_iown, ap_seq, th_nx, th_rt, th_exc, ap_skip, ap_set, ap_asg, ap_aug, ap_lm, ap_put, ap_oif, ap_ret, ap_drop, ap_raise, ap_gN, ap_gT, ap_gsN, ap_gsC, ap_app, Res.bind_ok, Res.bind_exc, Res.of_some, exOut_ok, exOut_exc, wipeE, Option.bind_some, List.length_cons, List.length_nil, List.getElem?_cons_zero, List.getElem?_cons_succ, List.set_cons_zero, List.set_cons_succ, List.map_cons, List.map_nil, add_ii, sub_ii, cmpI, negD, modD, ap_lenL, ap_lenT, intD, int1, int2, walkD, if_true, if_false, decide_eq_true_eq, Bool.false_eq_true, reduceIte, Nat.reduceAdd, Nat.reduceSub, List.replicate_succ, List.replicate_zero, List.cons_append, List.nil_append]
    obtain ⟨v, _, hv⟩ := drawn_ok (a := 450 + (m : Int)) (ns := xs) (by omega)
    obtain ⟨n6, hn6, hn6'⟩ := mod_ok v (n := 6) (by omega)
    rw [show ((6 : Nat) : Int) = 6 from rfl] at hn6'
    refine seq_for (fun i e => ∃ (w : List Nat) (j7 : Option D), e = [some (li ns), some (li xs), some (.int sh), some (hD hs), some (.str kept), some (.int (m : Int)), some (.str (txS w)), j7, j8, j9, j10, j11, j12, j13, j14, j15, j16] ∧ w.length ≤ 60 * i ∧ Lo w) (rng 0 n6) ?_ ⟨[], _, rfl, by simp, by unfold Lo; simp⟩ ?_ ?_
    · refine irange_ok (l := [.int n6]) ?_ (range1 (by omega))
      simp only [ap_m2, ap_cons, ap_nil, ap_c, ap_var, ap_cb, ap_call, intD, add_ii, Res.bind_ok, Res.of_some, List.getElem?_cons_zero, List.getElem?_cons_succ, hv, hn6']
    · rintro i d e hd ⟨w, j7, rfl, w1, w2⟩
      rw [rng_get] at hd
      split at hd <;> cases hd
      rename_i hi6
      rw [Int.zero_add]
      obtain ⟨q, q0, q1, q2⟩ := most2 (decide ((sh : Int) = 5))
      have m80 := mulK (k := 80) (by omega) m
      have m12 := mulK (k := 12) (by omega) i
      obtain ⟨u, hu, u1, u2⟩ := lword_ok (xs := xs) (by omega) (at' := 460 + 80 * (m : Int) + 12 * (i : Int)) hb hlo (most := q) ⟨q0, q1⟩
      have e5 : eqD (.int (sh : Int)) (.int 5) = some (.bool (decide ((sh : Int) = 5))) := rfl
      have hadd : addD (.str (txS w)) (.str (txS u)) = some (.str (txS (w ++ u))) := by
        rw [add_str (sz_ge (by rw [txS_length, txS_length]; omega)), txS_append]
      refine ⟨[some (li ns), some (li xs), some (.int sh), some (hD hs), some (.str kept), some (.int (m : Int)), some (.str (txS w)), some (.int (i : Int)), j8, j9, j10, j11, j12, j13, j14, j15, j16], [some (li ns), some (li xs), some (.int sh), some (hD hs), some (.str kept), some (.int (m : Int)), some (.str (txS (w ++ u))), some (.int (i : Int)), j8, j9, j10, j11, j12, j13, j14, j15, j16], rfl, ?_, w ++ u, _, rfl, by rw [List.length_append]; omega, w2.app u2⟩
      have c1 : (mCall m__law_word (aCons (mVar 1) (aCons (m2 addD (m2 addD (mC (.int 460)) (m2 mulG (mC (.int 80)) (mVar 5))) (m2 mulG (mC (.int 12)) (mVar 7))) (aCons (mVar 3) (aCons (m2 ixD (mList (aCons (mC (.int 9)) (aCons (mC (.int 30)) aNil))) (mCB intD (aCons (m2 eqD (mVar 2) (mC (.int 5))) aNil))) aNil))))) [some (li ns), some (li xs), some (.int sh), some (hD hs), some (.str kept), some (.int (m : Int)), some (.str (txS w)), some (.int (i : Int)), j8, j9, j10, j11, j12, j13, j14, j15, j16] = .ok (.str (txS u)) := by
        refine call_ok (l := [li xs, .int (460 + 80 * (m : Int) + 12 * (i : Int)), hD hs, .int q]) ?_ hu
        have f1 := m2_ok (f := mulG) (ma := mC (.int 80)) (mb := mVar 5) (env := [some (li ns), some (li xs), some (.int sh), some (hD hs), some (.str kept), some (.int (m : Int)), some (.str (txS w)), some (.int (i : Int)), j8, j9, j10, j11, j12, j13, j14, j15, j16]) ap_c (var_ok rfl) m80
        have f2 := m2_ok (f := mulG) (ma := mC (.int 12)) (mb := mVar 7) (env := [some (li ns), some (li xs), some (.int sh), some (hD hs), some (.str kept), some (.int (m : Int)), some (.str (txS w)), some (.int (i : Int)), j8, j9, j10, j11, j12, j13, j14, j15, j16]) ap_c (var_ok rfl) m12
        have f3 := m2_ok (f := addD) (ma := mC (.int 460)) ap_c f1 add_ii
        have f4 := m2_ok (f := addD) f3 f2 add_ii
        have f5 : (mList (aCons (mC (.int 9)) (aCons (mC (.int 30)) aNil))) [some (li ns), some (li xs), some (.int sh), some (hD hs), some (.str kept), some (.int (m : Int)), some (.str (txS w)), some (.int (i : Int)), j8, j9, j10, j11, j12, j13, j14, j15, j16] = .ok (.list [.int 9, .int 30]) := by
          simp only [ap_list, ap_cons, ap_nil, ap_c, Res.bind_ok, List.length_cons, List.length_nil, Nat.reduceAdd, z2, if_true]
        have f6 := m2_ok (f := eqD) (ma := mVar 2) (mb := mC (.int 5)) (env := [some (li ns), some (li xs), some (.int sh), some (hD hs), some (.str kept), some (.int (m : Int)), some (.str (txS w)), some (.int (i : Int)), j8, j9, j10, j11, j12, j13, j14, j15, j16]) (var_ok rfl) ap_c e5
        have f7 : (mCB intD (aCons (m2 eqD (mVar 2) (mC (.int 5))) aNil)) [some (li ns), some (li xs), some (.int sh), some (hD hs), some (.str kept), some (.int (m : Int)), some (.str (txS w)), some (.int (i : Int)), j8, j9, j10, j11, j12, j13, j14, j15, j16] = .ok (.int (if decide ((sh : Int) = 5) = true then 1 else 0)) := cb_ok (cons_ok f6 ap_nil) rfl
        exact cons_ok (var_ok rfl) (cons_ok f4 (cons_ok (var_ok rfl) (cons_ok (m2_ok (f := ixD) f5 f7 q2) ap_nil)))
      have c2 := m2_ok (f := addD) (ma := mVar 6) (var_ok rfl) c1 hadd
      exact seq_nx ((set_ok c2).trans rfl) rfl
    rintro e ⟨W0, j7, rfl, w1, w2⟩
    rw [rng_len] at w1
    obtain ⟨w, hw0⟩ : ∃ w, w = W0.take 60 := ⟨_, rfl⟩
    have hw : w.length ≤ 60 := by rw [hw0, List.length_take]; omega
    have hwlo : Lo w := by rw [hw0]; exact w2.take _
    have hs60 := sl_to (t := W0) (a := 60) (sz_ge (by omega))
    rw [← hw0, show ((60 : Nat) : Int) = 60 from rfl] at hs60
    refine seq_ex (e := [some (li ns), some (li xs), some (.int sh), some (hD hs), some (.str kept), some (.int (m : Int)), some (.str (txS w)), j7, j8, j9, j10, j11, j12, j13, j14, j15, j16]) ?_ ?_
    · simp only [ap_var, ap_c, ap_m1, ap_m2, ap_m3, ap_part, ap_nopart, ap_if, ap_isN, ap_notN, ap_list, ap_tup, ap_nil, ap_cons, ap_cb, ap_m1m, ap_chain, ap_isi, ap_mB, ap_asB, ap_and, ap_or, ap_not, ap_yes, ap_call, ap_lc, ap_noX, ap_iseq, ap_iown, ap_seq, th_nx, th_rt, th_exc, ap_skip, ap_set, ap_asg, ap_aug, ap_lm, ap_put, ap_oif, ap_ret, ap_drop, ap_raise, ap_gN, ap_gT, ap_gsN, ap_gsC, ap_app, Res.bind_ok, Res.bind_exc, Res.of_some, exOut_ok, exOut_exc, wipeE, Option.bind_some, List.length_cons, List.length_nil, List.getElem?_cons_zero, List.getElem?_cons_succ, List.set_cons_zero, List.set_cons_succ, List.map_cons, List.map_nil, add_ii, sub_ii, cmpI, negD, modD, ap_lenL, ap_lenT, intD, int1, int2, walkD, if_true, if_false, decide_eq_true_eq, Bool.false_eq_true, reduceIte, Nat.reduceAdd, Nat.reduceSub, List.replicate_succ, List.replicate_zero, List.cons_append, List.nil_append, hs60]
    clear hs60 hw0 w1 w2 W0
    have hlp := lpieces_ok hb (w := w) (by omega)
    have hcw := cut_ok hb (w := w) (by omega)
    have hww := windows_ok hb (w := w) (by omega)
    have hle := least_ok hs (w := w) (by omega)
    have gg := grd_good hb hw hwlo w.length 0
    have gw := grw_good (hs := hs) hw w.length 0
    have gl := grF_len_le hs w w.length 0
    have wl := winF_len hs w w.length 0
    have gg : ∀ p ∈ grd hs w, GP 10000 p := gg
    have gw : ∀ p ∈ grw hs w, GW 10000 p := gw
    have gl : (grd hs w).length ≤ w.length := gl
    have wl : (grw hs w).length ≤ w.length := wl
    have hdu := due_ok hb hlo (w := w) (by omega) (ps := grd hs w) (by omega) (ws := grw hs w) (by omega)
    rw [due_gr hasc w] at hdu
    rw [← least_gr hs w] at hle
    obtain ⟨rp, hrp⟩ := repr_of (sm_pcs (by omega) gg) (by omega) (by omega)
    have TG0 : TG 0 (grd hs w, grw hs w) := ⟨by show (grd hs w).length ≤ _; omega, by show (grw hs w).length ≤ _; omega, fun p hp => gg p hp, fun p hp => gw p hp⟩
    have TG1 : TG 0 (grd hs w, []) := ⟨by show (grd hs w).length ≤ _; omega, by simp, fun p hp => gg p hp, by simp⟩
    have hgen : ∃ P, P = grd hs w := ⟨_, rfl⟩
    obtain ⟨P, hP⟩ := hgen
    obtain ⟨Q, hQ⟩ : ∃ Q, Q = grw hs w := ⟨_, rfl⟩
    rw [← hP] at hlp hcw hle hdu hrp TG0 TG1 gl
    rw [← hQ] at hww hdu TG0 wl
    clear gg gw hP hQ
    refine seq_ex (e := [some (li ns), some (li xs), some (.int sh), some (hD hs), some (.str kept), some (.int (m : Int)), some (.str (txS w)), j7, some (.list (P.map pcD)), j9, j10, j11, j12, j13, j14, j15, j16]) ?_ ?_
    · refine (set_ok (call_ok (l := [hD hs, .str (txS w)]) ?_ hlp)).trans rfl
      simp only [ap_var, ap_c, ap_m1, ap_m2, ap_m3, ap_part, ap_nopart, ap_if, ap_isN, ap_notN, ap_list, ap_tup, ap_nil, ap_cons, ap_cb, ap_m1m, ap_chain, ap_isi, ap_mB, ap_asB, ap_and, ap_or, ap_not, ap_yes, ap_call, ap_lc, ap_noX, ap_iseq, ap_iown, ap_seq, th_nx, th_rt, th_exc, ap_skip, ap_set, ap_asg, ap_aug, ap_lm, ap_put, ap_oif, ap_ret, ap_drop, ap_raise, ap_gN, ap_gT, ap_gsN, ap_gsC, ap_app, Res.bind_ok, Res.bind_exc, Res.of_some, exOut_ok, exOut_exc, wipeE, Option.bind_some, List.length_cons, List.length_nil, List.getElem?_cons_zero, List.getElem?_cons_succ, List.set_cons_zero, List.set_cons_succ, List.map_cons, List.map_nil, add_ii, sub_ii, cmpI, negD, modD, ap_lenL, ap_lenT, intD, int1, int2, walkD, if_true, if_false, decide_eq_true_eq, Bool.false_eq_true, reduceIte, Nat.reduceAdd, Nat.reduceSub, List.replicate_succ, List.replicate_zero, List.cons_append, List.nil_append]
    refine seq_ex (e := [some (li ns), some (li xs), some (.int sh), some (hD hs), some (.str kept), some (.int (m : Int)), some (.str (txS w)), j7, some (.list (P.map pcD)), some (.list (P.map pcD)), j10, j11, j12, j13, j14, j15, j16]) ?_ ?_
    · refine (set_ok (call_ok (l := [hD hs, .str (txS w)]) ?_ hcw)).trans rfl
      simp only [ap_var, ap_c, ap_m1, ap_m2, ap_m3, ap_part, ap_nopart, ap_if, ap_isN, ap_notN, ap_list, ap_tup, ap_nil, ap_cons, ap_cb, ap_m1m, ap_chain, ap_isi, ap_mB, ap_asB, ap_and, ap_or, ap_not, ap_yes, ap_call, ap_lc, ap_noX, ap_iseq, ap_iown, ap_seq, th_nx, th_rt, th_exc, ap_skip, ap_set, ap_asg, ap_aug, ap_lm, ap_put, ap_oif, ap_ret, ap_drop, ap_raise, ap_gN, ap_gT, ap_gsN, ap_gsC, ap_app, Res.bind_ok, Res.bind_exc, Res.of_some, exOut_ok, exOut_exc, wipeE, Option.bind_some, List.length_cons, List.length_nil, List.getElem?_cons_zero, List.getElem?_cons_succ, List.set_cons_zero, List.set_cons_succ, List.map_cons, List.map_nil, add_ii, sub_ii, cmpI, negD, modD, ap_lenL, ap_lenT, intD, int1, int2, walkD, if_true, if_false, decide_eq_true_eq, Bool.false_eq_true, reduceIte, Nat.reduceAdd, Nat.reduceSub, List.replicate_succ, List.replicate_zero, List.cons_append, List.nil_append]
    refine seq_ex (e := [some (li ns), some (li xs), some (.int sh), some (hD hs), some (.str kept), some (.int (m : Int)), some (.str (txS w)), j7, some (.list (P.map pcD)), some (.list (P.map pcD)), some (.list (Q.map wD)), j11, j12, j13, j14, j15, j16]) ?_ ?_
    · refine (set_ok (call_ok (l := [hD hs, .str (txS w)]) ?_ hww)).trans rfl
      simp only [ap_var, ap_c, ap_m1, ap_m2, ap_m3, ap_part, ap_nopart, ap_if, ap_isN, ap_notN, ap_list, ap_tup, ap_nil, ap_cons, ap_cb, ap_m1m, ap_chain, ap_isi, ap_mB, ap_asB, ap_and, ap_or, ap_not, ap_yes, ap_call, ap_lc, ap_noX, ap_iseq, ap_iown, ap_seq, th_nx, th_rt, th_exc, ap_skip, ap_set, ap_asg, ap_aug, ap_lm, ap_put, ap_oif, ap_ret, ap_drop, ap_raise, ap_gN, ap_gT, ap_gsN, ap_gsC, ap_app, Res.bind_ok, Res.bind_exc, Res.of_some, exOut_ok, exOut_exc, wipeE, Option.bind_some, List.length_cons, List.length_nil, List.getElem?_cons_zero, List.getElem?_cons_succ, List.set_cons_zero, List.set_cons_succ, List.map_cons, List.map_nil, add_ii, sub_ii, cmpI, negD, modD, ap_lenL, ap_lenT, intD, int1, int2, walkD, if_true, if_false, decide_eq_true_eq, Bool.false_eq_true, reduceIte, Nat.reduceAdd, Nat.reduceSub, List.replicate_succ, List.replicate_zero, List.cons_append, List.nil_append]
    refine seq_ex (e := [some (li ns), some (li xs), some (.int sh), some (hD hs), some (.str kept), some (.int (m : Int)), some (.str (txS w)), j7, some (.list (P.map pcD)), some (.list (P.map pcD)), some (.list (Q.map wD)), j11, j12, j13, j14, j15, j16]) ?_ ?_
    · have a1 : mB (mIsi "list" (mVar 9)) [some (li ns), some (li xs), some (.int sh), some (hD hs), some (.str kept), some (.int (m : Int)), some (.str (txS w)), j7, some (.list (P.map pcD)), some (.list (P.map pcD)), some (.list (Q.map wD)), j11, j12, j13, j14, j15, j16] = .ok true := by simp only [ap_mB, ap_isi, ap_var, Res.bind_ok, Res.of_some, List.getElem?_cons_zero, List.getElem?_cons_succ, isi_list, ap_asB]
      have a2 := not_ok a1
      have b1 := cb_ok (g := reprD) (cons_ok (m := mVar 9) (env := [some (li ns), some (li xs), some (.int sh), some (hD hs), some (.str kept), some (.int (m : Int)), some (.str (txS w)), j7, some (.list (P.map pcD)), some (.list (P.map pcD)), some (.list (Q.map wD)), j11, j12, j13, j14, j15, j16]) (var_ok rfl) ap_nil) hrp
      have b2 := cb_ok (g := reprD) (cons_ok (m := mVar 8) (env := [some (li ns), some (li xs), some (.int sh), some (hD hs), some (.str kept), some (.int (m : Int)), some (.str (txS w)), j7, some (.list (P.map pcD)), some (.list (P.map pcD)), some (.list (Q.map wD)), j11, j12, j13, j14, j15, j16]) (var_ok rfl) ap_nil) hrp
      have b3 := b_ok (m2_ok (f := neD) b1 b2 (ne_strX rp))
      have b4 := cb_ok (g := reprD) (cons_ok (m := mVar 3) (env := [some (li ns), some (li xs), some (.int sh), some (hD hs), some (.str kept), some (.int (m : Int)), some (.str (txS w)), j7, some (.list (P.map pcD)), some (.list (P.map pcD)), some (.list (Q.map wD)), j11, j12, j13, j14, j15, j16]) (var_ok rfl) ap_nil) hk
      have b5 := b_ok (m2_ok (f := neD) (mb := mVar 4) b4 (var_ok rfl) (ne_strX kept))
      have b6 : (mCB lenD (aCons (mVar 8) aNil)) [some (li ns), some (li xs), some (.int sh), some (hD hs), some (.str kept), some (.int (m : Int)), some (.str (txS w)), j7, some (.list (P.map pcD)), some (.list (P.map pcD)), some (.list (Q.map wD)), j11, j12, j13, j14, j15, j16] = .ok (.int P.length) := by
        simp only [ap_cb, ap_cons, ap_nil, ap_var, Res.bind_ok, Res.of_some, List.getElem?_cons_zero, List.getElem?_cons_succ, ap_lenL, List.length_map]
      have b7 := call_ok (mf := m__law_least) (cons_ok (m := mVar 3) (env := [some (li ns), some (li xs), some (.int sh), some (hD hs), some (.str kept), some (.int (m : Int)), some (.str (txS w)), j7, some (.list (P.map pcD)), some (.list (P.map pcD)), some (.list (Q.map wD)), j11, j12, j13, j14, j15, j16]) (var_ok rfl) (cons_ok (m := mVar 6) (var_ok rfl) ap_nil)) hle
      have b8 := b_ok (m2_ok (f := neD) b6 b7 (neq_natX _))
      have c1 := or_f b5 b8
      have c2 := or_f b3 c1
      have c3 := or_f a2 c2
      exact oif_f c3
    refine seq_ex (e := [some (li ns), some (li xs), some (.int sh), some (hD hs), some (.str kept), some (.int (m : Int)), some (.str (txS w)), j7, some (.list (P.map pcD)), some (.list (P.map pcD)), some (.list (Q.map wD)), j11, j12, j13, j14, j15, j16]) ?_ ?_
    · have a1 : mB (mIsi "list" (mVar 10)) [some (li ns), some (li xs), some (.int sh), some (hD hs), some (.str kept), some (.int (m : Int)), some (.str (txS w)), j7, some (.list (P.map pcD)), some (.list (P.map pcD)), some (.list (Q.map wD)), j11, j12, j13, j14, j15, j16] = .ok true := by simp only [ap_mB, ap_isi, ap_var, Res.bind_ok, Res.of_some, List.getElem?_cons_zero, List.getElem?_cons_succ, isi_list, ap_asB]
      have a2 := not_ok a1
      have b1 := call_ok (mf := m__law_due) (cons_ok (m := mVar 3) (env := [some (li ns), some (li xs), some (.int sh), some (hD hs), some (.str kept), some (.int (m : Int)), some (.str (txS w)), j7, some (.list (P.map pcD)), some (.list (P.map pcD)), some (.list (Q.map wD)), j11, j12, j13, j14, j15, j16]) (var_ok rfl) (cons_ok (m := mVar 6) (var_ok rfl) (cons_ok (m := mVar 8) (var_ok rfl) (cons_ok (m := mVar 10) (var_ok rfl) ap_nil)))) hdu
      have b2 := not_ok (b_ok b1)
      have c1 := or_f a2 b2
      exact oif_f c1
    have hzz : (P.map pcD).length < sizeLine := sz_gt (by simp; omega)
    refine seq_ex (e := [some (li ns), some (li xs), some (.int sh), some (hD hs), some (.str kept), some (.int (m : Int)), some (.str (txS w)), j7, some (.list (P.map pcD)), some (.list (P.map pcD ++ [.int 0])), some (.list (Q.map wD)), j11, j12, j13, j14, j15, j16]) ?_ ?_
    · simp only [ap_var, ap_c, ap_m1, ap_m2, ap_m3, ap_part, ap_nopart, ap_if, ap_isN, ap_notN, ap_list, ap_tup, ap_nil, ap_cons, ap_cb, ap_m1m, ap_chain, ap_isi, ap_mB, ap_asB, ap_and, ap_or, ap_not, ap_yes, ap_call, ap_lc, ap_noX, ap_iseq, ap_iown, ap_seq, th_nx, th_rt, th_exc, ap_skip, ap_set, ap_asg, ap_aug, ap_lm, ap_put, ap_oif, ap_ret, ap_drop, ap_raise, ap_gN, ap_gT, ap_gsN, ap_gsC, ap_app, Res.bind_ok, Res.bind_exc, Res.of_some, exOut_ok, exOut_exc, wipeE, Option.bind_some, List.length_cons, List.length_nil, List.getElem?_cons_zero, List.getElem?_cons_succ, List.set_cons_zero, List.set_cons_succ, List.map_cons, List.map_nil, add_ii, sub_ii, cmpI, negD, modD, ap_lenL, ap_lenT, intD, int1, int2, walkD, if_true, if_false, decide_eq_true_eq, Bool.false_eq_true, reduceIte, Nat.reduceAdd, Nat.reduceSub, List.replicate_succ, List.replicate_zero, List.cons_append, List.nil_append, hzz]
    refine seq_ex (e := [some (li ns), some (li xs), some (.int sh), some (hD hs), some (.str kept), some (.int (m : Int)), some (.str (txS w)), j7, some (.list (P.map pcD)), some (.list (P.map pcD ++ [.int 0])), some (.list (Q.map wD)), some (.list ([(P, Q), (P, [])].map tD)), j12, j13, j14, j15, j16]) ?_ ?_
    · simp only [ap_var, ap_c, ap_m1, ap_m2, ap_m3, ap_part, ap_nopart, ap_if, ap_isN, ap_notN, ap_list, ap_tup, ap_nil, ap_cons, ap_cb, ap_m1m, ap_chain, ap_isi, ap_mB, ap_asB, ap_and, ap_or, ap_not, ap_yes, ap_call, ap_lc, ap_noX, ap_iseq, ap_iown, ap_seq, th_nx, th_rt, th_exc, ap_skip, ap_set, ap_asg, ap_aug, ap_lm, ap_put, ap_oif, ap_ret, ap_drop, ap_raise, ap_gN, ap_gT, ap_gsN, ap_gsC, ap_app, Res.bind_ok, Res.bind_exc, Res.of_some, exOut_ok, exOut_exc, wipeE, Option.bind_some, List.length_cons, List.length_nil, List.getElem?_cons_zero, List.getElem?_cons_succ, List.set_cons_zero, List.set_cons_succ, List.map_cons, List.map_nil, add_ii, sub_ii, cmpI, negD, modD, ap_lenL, ap_lenT, intD, int1, int2, walkD, if_true, if_false, decide_eq_true_eq, Bool.false_eq_true, reduceIte, Nat.reduceAdd, Nat.reduceSub, List.replicate_succ, List.replicate_zero, List.cons_append, List.nil_append, z0, z2]
      rfl
    refine seq_for (fun i e => ∃ (T : List Tr) (j12 j13 j14 : Option D), e = [some (li ns), some (li xs), some (.int sh), some (hD hs), some (.str kept), some (.int (m : Int)), some (.str (txS w)), j7, some (.list (P.map pcD)), some (.list (P.map pcD ++ [.int 0])), some (.list (Q.map wD)), some (.list (T.map tD)), j12, j13, j14, j15, j16] ∧ T.length = i + 2 ∧ ∀ t ∈ T, TG i t) (rng 0 8) ?_ ⟨[(P, Q), (P, [])], _, _, _, rfl, rfl, by
      intro t ht
      simp at ht
      rcases ht with rfl | rfl
      · exact TG0
      · exact TG1⟩ ?_ ?_
    · refine irange_ok (l := [.int (8 : Nat)]) ?_ (range1 (by omega))
      simp only [ap_var, ap_c, ap_m1, ap_m2, ap_m3, ap_part, ap_nopart, ap_if, ap_isN, ap_notN, ap_list, ap_tup, ap_nil, ap_cons, ap_cb, ap_m1m, ap_chain, ap_isi, ap_mB, ap_asB, ap_and, ap_or, ap_not, ap_yes, ap_call, ap_lc, ap_noX, ap_iseq, ap_iown, ap_seq, th_nx, th_rt, th_exc, ap_skip, ap_set, ap_asg, ap_aug, ap_lm, ap_put, ap_oif, ap_ret, ap_drop, ap_raise, ap_gN, ap_gT, ap_gsN, ap_gsC, ap_app, Res.bind_ok, Res.bind_exc, Res.of_some, exOut_ok, exOut_exc, wipeE, Option.bind_some, List.length_cons, List.length_nil, List.getElem?_cons_zero, List.getElem?_cons_succ, List.set_cons_zero, List.set_cons_succ, List.map_cons, List.map_nil, add_ii, sub_ii, cmpI, negD, modD, ap_lenL, ap_lenT, intD, int1, int2, walkD, if_true, if_false, decide_eq_true_eq, Bool.false_eq_true, reduceIte, Nat.reduceAdd, Nat.reduceSub, List.replicate_succ, List.replicate_zero, List.cons_append, List.nil_append]
      rfl
    · rintro i d e hd ⟨T, j12, j13, j14, rfl, T1, T2⟩
      rw [rng_get] at hd
      split at hd <;> cases hd
      rename_i hi8
      rw [Int.zero_add]
      obtain ⟨ta, hta⟩ : ∃ t, T[0]? = some t := ⟨_, List.getElem?_eq_getElem (by omega)⟩
      obtain ⟨tb, htb⟩ : ∃ t, T[T.length - 1]? = some t := ⟨_, List.getElem?_eq_getElem (by omega)⟩
      have x0 : ixD (.list (T.map tD)) (.int 0) = some (tD ta) := ix_int (n := 0) rfl (by rw [List.getElem?_map, hta]; rfl)
      have x1 : ixD (.list (T.map tD)) (.int (-1)) = some (tD tb) := ix_neg (n := 0) rfl (by simp; omega) (by rw [List.length_map, Nat.sub_zero, List.getElem?_map, htb]; rfl)
      obtain ⟨r2, hr2, hr2'⟩ := mod_ok (i : Int) (n := 2) (by omega)
      rw [show ((2 : Nat) : Int) = 2 from rfl] at hr2'
      obtain ⟨t, ht, htx⟩ : ∃ t, t ∈ T ∧ ixD (.list [tD ta, tD tb]) (.int (r2 : Int)) = some (tD t) := by
        match r2, hr2 with
        | 0, _ => exact ⟨ta, List.mem_of_getElem? hta, ix_nat (n := 0) rfl⟩
        | 1, _ => exact ⟨tb, List.mem_of_getElem? htb, ix_nat (n := 1) rfl⟩
      have tg := T2 t ht
      obtain ⟨ps', ws', hch, c1, c2, c3, c4⟩ := changed_ok (xs := xs) (by omega) (at' := 700 + 2 * (i : Int) + 20 * (m : Int)) (B := 10000 + (i : Int)) (by omega) (by omega) (ps := t.1) (by have := tg.pl; omega) tg.pg (ws := t.2) (by have := tg.wl; omega) tg.wg
      have m2' := mulK (k := 2) (by omega) i
      have m20 := mulK (k := 20) (by omega) m
      have hzt : (T.map tD).length < sizeLine := sz_gt (by simp; omega)
      refine ⟨[some (li ns), some (li xs), some (.int sh), some (hD hs), some (.str kept), some (.int (m : Int)), some (.str (txS w)), j7, some (.list (P.map pcD)), some (.list (P.map pcD ++ [.int 0])), some (.list (Q.map wD)), some (.list (T.map tD)), some (.int (i : Int)), j13, j14, j15, j16], [some (li ns), some (li xs), some (.int sh), some (hD hs), some (.str kept), some (.int (m : Int)), some (.str (txS w)), j7, some (.list (P.map pcD)), some (.list (P.map pcD ++ [.int 0])), some (.list (Q.map wD)), some (.list ((T ++ [(ps', ws')]).map tD)), some (.int (i : Int)), some (.list (t.1.map pcD)), some (.list (t.2.map wD)), j15, j16], rfl, ?_, T ++ [(ps', ws')], _, _, _, rfl, by simp; omega, ?_⟩
      · refine seq_nx (e := [some (li ns), some (li xs), some (.int sh), some (hD hs), some (.str kept), some (.int (m : Int)), some (.str (txS w)), j7, some (.list (P.map pcD)), some (.list (P.map pcD ++ [.int 0])), some (.list (Q.map wD)), some (.list (T.map tD)), some (.int (i : Int)), some (.list (t.1.map pcD)), some (.list (t.2.map wD)), j15, j16]) ?_ ?_
        · have f1 : (m2 ixD (mList (aCons (m2 ixD (mVar 11) (mC (.int 0))) (aCons (m2 ixD (mVar 11) (m1 negD (mC (.int 1)))) aNil))) (m2 modD (mCB intD (aCons (mVar 12) aNil)) (mC (.int 2)))) [some (li ns), some (li xs), some (.int sh), some (hD hs), some (.str kept), some (.int (m : Int)), some (.str (txS w)), j7, some (.list (P.map pcD)), some (.list (P.map pcD ++ [.int 0])), some (.list (Q.map wD)), some (.list (T.map tD)), some (.int (i : Int)), j13, j14, j15, j16] = .ok (tD t) := by
            simp only [ap_m2, ap_m1, negD, ap_list, ap_cons, ap_nil, ap_c, ap_var, ap_cb, intD, Res.bind_ok, Res.of_some, List.getElem?_cons_zero, List.getElem?_cons_succ, List.length_cons, List.length_nil, Nat.reduceAdd, x0, x1, z2, if_true, hr2', htx]
          rw [ap_asg, f1]
          rfl
        have g1 := m2_ok (f := mulG) (ma := mC (.int 2)) (mb := mVar 12) (env := [some (li ns), some (li xs), some (.int sh), some (hD hs), some (.str kept), some (.int (m : Int)), some (.str (txS w)), j7, some (.list (P.map pcD)), some (.list (P.map pcD ++ [.int 0])), some (.list (Q.map wD)), some (.list (T.map tD)), some (.int (i : Int)), some (.list (t.1.map pcD)), some (.list (t.2.map wD)), j15, j16]) ap_c (var_ok rfl) m2'
        have g2 := m2_ok (f := mulG) (ma := mC (.int 20)) (mb := mVar 5) (env := [some (li ns), some (li xs), some (.int sh), some (hD hs), some (.str kept), some (.int (m : Int)), some (.str (txS w)), j7, some (.list (P.map pcD)), some (.list (P.map pcD ++ [.int 0])), some (.list (Q.map wD)), some (.list (T.map tD)), some (.int (i : Int)), some (.list (t.1.map pcD)), some (.list (t.2.map wD)), j15, j16]) ap_c (var_ok rfl) m20
        have g3 := m2_ok (f := addD) (ma := mC (.int 700)) ap_c g1 add_ii
        have g4 := m2_ok (f := addD) g3 g2 add_ii
        have g5 := call_ok (mf := m__law_changed) (cons_ok (m := mVar 1) (var_ok rfl) (cons_ok g4 (cons_ok (m := mVar 13) (var_ok rfl) (cons_ok (m := mVar 14) (var_ok rfl) ap_nil)))) hch
        refine seq_nx (e := [some (li ns), some (li xs), some (.int sh), some (hD hs), some (.str kept), some (.int (m : Int)), some (.str (txS w)), j7, some (.list (P.map pcD)), some (.list (P.map pcD ++ [.int 0])), some (.list (Q.map wD)), some (.list ((T ++ [(ps', ws')]).map tD)), some (.int (i : Int)), some (.list (t.1.map pcD)), some (.list (t.2.map wD)), j15, j16]) ?_ rfl
        rw [ap_lm]
        simp only [List.getElem?_cons_zero, List.getElem?_cons_succ]
        rw [cons_ok g5 ap_nil, exOut_ok, ap_app, if_pos hzt]
        rw [List.map_append]
        rfl
      · intro x hx
        rcases List.mem_append.mp hx with hx | hx
        · exact (T2 x hx).mono (by omega)
        · simp at hx
          subst hx
          have := tg.pl
          have := tg.wl
          exact ⟨by show ps'.length ≤ _; omega, by show ws'.length ≤ _; omega, fun p hp => (c3 p hp).mono (by omega), fun p hp => (c4 p hp).mono (by omega)⟩
    rintro e ⟨T, j12, j13, j14, rfl, T1, T2⟩
    rw [rng_len] at T2
    refine seq_for (fun _ e => ∃ j13 j14 j15 j16, e = [some (li ns), some (li xs), some (.int sh), some (hD hs), some (.str kept), some (.int (m : Int)), some (.str (txS w)), j7, some (.list (P.map pcD)), some (.list (P.map pcD ++ [.int 0])), some (.list (Q.map wD)), some (.list (T.map tD)), j12, j13, j14, j15, j16]) (T.map tD) rfl ⟨_, _, _, _, rfl⟩ ?_ ?_
    · rintro i d e hd ⟨j13, j14, j15, j16, rfl⟩
      obtain ⟨t, ht, rfl⟩ := map_get hd
      have tg := T2 t (List.mem_of_getElem? ht)
      obtain ⟨bf, hbf⟩ := repr_of (sm_tr (by omega) tg) (by omega) (by omega)
      have hck := check_ok hb hasc (w := w) (by omega) (ps := t.1) (ws := t.2) (by have := tg.wl; omega)
      have hdd := due_ok hb hlo (w := w) (by omega) (ps := t.1) (by have := tg.pl; omega) (ws := t.2) (by have := tg.wl; omega)
      rw [du_ch] at hdd
      obtain ⟨ab, hab⟩ := repr_of (Sm.bool (b := chB hs w t.1 t.2)) (by omega) (by omega)
      generalize chB hs w t.1 t.2 = cb at hck hdd hab
      refine ⟨[some (li ns), some (li xs), some (.int sh), some (hD hs), some (.str kept), some (.int (m : Int)), some (.str (txS w)), j7, some (.list (P.map pcD)), some (.list (P.map pcD ++ [.int 0])), some (.list (Q.map wD)), some (.list (T.map tD)), j12, some (.list (t.1.map pcD)), some (.list (t.2.map wD)), j15, j16], [some (li ns), some (li xs), some (.int sh), some (hD hs), some (.str kept), some (.int (m : Int)), some (.str (txS w)), j7, some (.list (P.map pcD)), some (.list (P.map pcD ++ [.int 0])), some (.list (Q.map wD)), some (.list (T.map tD)), j12, some (.list (t.1.map pcD)), some (.list (t.2.map wD)), some (.str bf), some (.bool cb)], rfl, ?_, _, _, _, _, rfl⟩
      have f0 : (mTup (aCons (mVar 13) (aCons (mVar 14) aNil))) [some (li ns), some (li xs), some (.int sh), some (hD hs), some (.str kept), some (.int (m : Int)), some (.str (txS w)), j7, some (.list (P.map pcD)), some (.list (P.map pcD ++ [.int 0])), some (.list (Q.map wD)), some (.list (T.map tD)), j12, some (.list (t.1.map pcD)), some (.list (t.2.map wD)), j15, j16] = .ok (tD t) := tup_ok (cons_ok (var_ok rfl) (cons_ok (var_ok rfl) ap_nil)) (by show 2 ≤ 16777216; omega)
      have f1 := cb_ok (g := reprD) (cons_ok f0 ap_nil) hbf
      refine seq_nx (e := [some (li ns), some (li xs), some (.int sh), some (hD hs), some (.str kept), some (.int (m : Int)), some (.str (txS w)), j7, some (.list (P.map pcD)), some (.list (P.map pcD ++ [.int 0])), some (.list (Q.map wD)), some (.list (T.map tD)), j12, some (.list (t.1.map pcD)), some (.list (t.2.map wD)), some (.str bf), j16]) ((set_ok f1).trans rfl) ?_
      have f2 := call_ok (mf := m_check_word) (cons_ok (m := mVar 3) (env := [some (li ns), some (li xs), some (.int sh), some (hD hs), some (.str kept), some (.int (m : Int)), some (.str (txS w)), j7, some (.list (P.map pcD)), some (.list (P.map pcD ++ [.int 0])), some (.list (Q.map wD)), some (.list (T.map tD)), j12, some (.list (t.1.map pcD)), some (.list (t.2.map wD)), some (.str bf), j16]) (var_ok rfl) (cons_ok (m := mVar 6) (var_ok rfl) (cons_ok (m := mVar 13) (var_ok rfl) (cons_ok (m := mVar 14) (var_ok rfl) ap_nil)))) hck
      refine seq_nx (e := [some (li ns), some (li xs), some (.int sh), some (hD hs), some (.str kept), some (.int (m : Int)), some (.str (txS w)), j7, some (.list (P.map pcD)), some (.list (P.map pcD ++ [.int 0])), some (.list (Q.map wD)), some (.list (T.map tD)), j12, some (.list (t.1.map pcD)), some (.list (t.2.map wD)), some (.str bf), some (.bool cb)]) ((set_ok f2).trans rfl) ?_
      have g1 := cb_ok (g := reprD) (cons_ok (m := mVar 16) (env := [some (li ns), some (li xs), some (.int sh), some (hD hs), some (.str kept), some (.int (m : Int)), some (.str (txS w)), j7, some (.list (P.map pcD)), some (.list (P.map pcD ++ [.int 0])), some (.list (Q.map wD)), some (.list (T.map tD)), j12, some (.list (t.1.map pcD)), some (.list (t.2.map wD)), some (.str bf), some (.bool cb)]) (var_ok rfl) ap_nil) hab
      have g2 := call_ok (mf := m__law_due) (cons_ok (m := mVar 3) (env := [some (li ns), some (li xs), some (.int sh), some (hD hs), some (.str kept), some (.int (m : Int)), some (.str (txS w)), j7, some (.list (P.map pcD)), some (.list (P.map pcD ++ [.int 0])), some (.list (Q.map wD)), some (.list (T.map tD)), j12, some (.list (t.1.map pcD)), some (.list (t.2.map wD)), some (.str bf), some (.bool cb)]) (var_ok rfl) (cons_ok (m := mVar 6) (var_ok rfl) (cons_ok (m := mVar 13) (var_ok rfl) (cons_ok (m := mVar 14) (var_ok rfl) ap_nil)))) hdd
      have g3 := cb_ok (g := reprD) (cons_ok g2 ap_nil) hab
      have g4 := b_ok (m2_ok (f := neD) g1 g3 (ne_strX ab))
      have g5 : (mTup (aCons (mVar 13) (aCons (mVar 14) aNil))) [some (li ns), some (li xs), some (.int sh), some (hD hs), some (.str kept), some (.int (m : Int)), some (.str (txS w)), j7, some (.list (P.map pcD)), some (.list (P.map pcD ++ [.int 0])), some (.list (Q.map wD)), some (.list (T.map tD)), j12, some (.list (t.1.map pcD)), some (.list (t.2.map wD)), some (.str bf), some (.bool cb)] = .ok (tD t) := tup_ok (cons_ok (var_ok rfl) (cons_ok (var_ok rfl) ap_nil)) (by show 2 ≤ 16777216; omega)
      have g6 := cb_ok (g := reprD) (cons_ok g5 ap_nil) hbf
      have g7 := b_ok (m2_ok (f := neD) (mb := mVar 15) g6 (var_ok rfl) (ne_strX bf))
      exact seq_nx (oif_f (or_f g4 g7)) rfl
    rintro e ⟨j13, j14, j15, j16, rfl⟩
    refine ⟨.nx [some (li ns), some (li xs), some (.int sh), some (hD hs), some (.str kept), some (.int (m : Int)), some (.str (txS w)), j7, some (.list (P.map pcD)), some (.list (P.map pcD ++ [.int 0])), some (.list (Q.map wD)), some (.list (T.map tD)), j12, j13, j14, j15, j16], ?_, _, _, _, _, _, _, _, _, _, _, _, _, rfl⟩
    have g1 := call_ok (mf := m_cut_word) (cons_ok (m := mVar 3) (env := [some (li ns), some (li xs), some (.int sh), some (hD hs), some (.str kept), some (.int (m : Int)), some (.str (txS w)), j7, some (.list (P.map pcD)), some (.list (P.map pcD ++ [.int 0])), some (.list (Q.map wD)), some (.list (T.map tD)), j12, j13, j14, j15, j16]) (var_ok rfl) (cons_ok (m := mVar 6) (var_ok rfl) ap_nil)) hcw
    have g2 := cb_ok (g := reprD) (cons_ok g1 ap_nil) hrp
    have g3 := cb_ok (g := reprD) (cons_ok (m := mVar 8) (env := [some (li ns), some (li xs), some (.int sh), some (hD hs), some (.str kept), some (.int (m : Int)), some (.str (txS w)), j7, some (.list (P.map pcD)), some (.list (P.map pcD ++ [.int 0])), some (.list (Q.map wD)), some (.list (T.map tD)), j12, j13, j14, j15, j16]) (var_ok rfl) ap_nil) hrp
    have g4 := b_ok (m2_ok (f := neD) g2 g3 (ne_strX rp))
    exact seq_nx (oif_f g4) rfl
  rintro e ⟨j5, j6, j7, j8, j9, j10, j11, j12, j13, j14, j15, j16, rfl⟩
  refine ⟨_, ?_, rfl⟩
  have g1 := cb_ok (g := reprD) (cons_ok (m := mVar 3) (env := [some (li ns), some (li xs), some (.int sh), some (hD hs), some (.str kept), j5, j6, j7, j8, j9, j10, j11, j12, j13, j14, j15, j16]) (var_ok rfl) ap_nil) hk
  have hq : eqD (.str kept) (.str kept) = some (.bool true) := eqs (decide_eq_true rfl)
  exact ret_ok (m2_ok (f := eqD) (mb := mVar 4) g1 (var_ok rfl) hq)
end K48

namespace K48
end K48
open PySem PySem.W PyProof.Rows
set_option maxHeartbeats 0 in
theorem PySem.Challenge.cw_suffixhouse_k48_words_cut_by_a_house_holds : PySem.Challenge.rw_suffixhouse_k48_words_cut_by_a_house.Holds := by
  w_on; o_law; k_head; (case hw => w_witness2)
  k_fill
  refine DL.walkG (l := PySem.Challenge.rw_suffixhouse_k48_words_cut_by_a_house) (n := 63) (qual := "law") (st := K48.s_law) (N := K48.n_law) (M1 := []) (o := K48.o_law) rfl (by decide) rfl (fun w h Y => PySem.W.kIn_of Y) K48.sc_law (by decide) ?F K48.math
  case F =>
    intro w mg fa h KX G hmg
    refine' K48.all_mk KX G hmg ?a_alike ?l_alike ?c_alike ?k_alike ?a_size_of ?l_size_of ?c_size_of ?k_size_of ?a_longest_stretch ?l_longest_stretch ?c_longest_stretch ?k_longest_stretch ?a_cut_word ?l_cut_word ?c_cut_word ?k_cut_word ?a_places ?l_places ?c_places ?k_places ?a_told_windows ?l_told_windows ?c_told_windows ?k_told_windows ?a_are_apart ?l_are_apart ?c_are_apart ?k_are_apart ?a_word_windows ?l_word_windows ?c_word_windows ?k_word_windows ?a_are_pieces_of ?l_are_pieces_of ?c_are_pieces_of ?k_are_pieces_of ?a_check_word ?l_check_word ?c_check_word ?k_check_word ?a__law_numbers ?l__law_numbers ?c__law_numbers ?k__law_numbers ?a__law_drawn ?l__law_drawn ?c__law_drawn ?k__law_drawn ?a__law_signs ?l__law_signs ?c__law_signs ?k__law_signs ?a__law_text ?l__law_text ?c__law_text ?k__law_text ?a__law_house ?l__law_house ?c__law_house ?k__law_house ?a__law_word ?l__law_word ?c__law_word ?k__law_word ?a__law_alike ?l__law_alike ?c__law_alike ?k__law_alike ?a__law_is_stretch ?l__law_is_stretch ?c__law_is_stretch ?k__law_is_stretch ?a__law_pieces ?l__law_pieces ?c__law_pieces ?k__law_pieces ?a__law_least ?l__law_least ?c__law_least ?k__law_least ?a__law_due ?l__law_due ?c__law_due ?k__law_due ?a__law_changed ?l__law_changed ?c__law_changed ?k__law_changed ?a_law ?l_law ?c_law ?k_law ?z_abs ?z_dict ?z_int ?z_isinstance ?z_len ?z_list ?z_max ?z_min ?z_range ?z_repr ?nolist
    (case a_alike => k_is)
    (case l_alike => k_is)
    (case c_alike => k_is)
    (case k_alike => k_is)
    (case a_size_of => k_is)
    (case l_size_of => k_is)
    (case c_size_of => k_is)
    (case k_size_of => k_is)
    (case a_longest_stretch => k_is)
    (case l_longest_stretch => k_is)
    (case c_longest_stretch => k_is)
    (case k_longest_stretch => k_is)
    (case a_cut_word => k_is)
    (case l_cut_word => k_is)
    (case c_cut_word => k_is)
    (case k_cut_word => k_is)
    (case a_places => k_is)
    (case l_places => k_is)
    (case c_places => k_is)
    (case k_places => k_is)
    (case a_told_windows => k_is)
    (case l_told_windows => k_is)
    (case c_told_windows => k_is)
    (case k_told_windows => k_is)
    (case a_are_apart => k_is)
    (case l_are_apart => k_is)
    (case c_are_apart => k_is)
    (case k_are_apart => k_is)
    (case a_word_windows => k_is)
    (case l_word_windows => k_is)
    (case c_word_windows => k_is)
    (case k_word_windows => k_is)
    (case a_are_pieces_of => k_is)
    (case l_are_pieces_of => k_is)
    (case c_are_pieces_of => k_is)
    (case k_are_pieces_of => k_is)
    (case a_check_word => k_is)
    (case l_check_word => k_is)
    (case c_check_word => k_is)
    (case k_check_word => k_is)
    (case a__law_numbers => k_is)
    (case l__law_numbers => k_is)
    (case c__law_numbers => k_is)
    (case k__law_numbers => k_is)
    (case a__law_drawn => k_is)
    (case l__law_drawn => k_is)
    (case c__law_drawn => k_is)
    (case k__law_drawn => k_is)
    (case a__law_signs => k_is)
    (case l__law_signs => k_is)
    (case c__law_signs => k_is)
    (case k__law_signs => k_is)
    (case a__law_text => k_is)
    (case l__law_text => k_is)
    (case c__law_text => k_is)
    (case k__law_text => k_is)
    (case a__law_house => k_is)
    (case l__law_house => k_is)
    (case c__law_house => k_is)
    (case k__law_house => k_is)
    (case a__law_word => k_is)
    (case l__law_word => k_is)
    (case c__law_word => k_is)
    (case k__law_word => k_is)
    (case a__law_alike => k_is)
    (case l__law_alike => k_is)
    (case c__law_alike => k_is)
    (case k__law_alike => k_is)
    (case a__law_is_stretch => k_is)
    (case l__law_is_stretch => k_is)
    (case c__law_is_stretch => k_is)
    (case k__law_is_stretch => k_is)
    (case a__law_pieces => k_is)
    (case l__law_pieces => k_is)
    (case c__law_pieces => k_is)
    (case k__law_pieces => k_is)
    (case a__law_least => k_is)
    (case l__law_least => k_is)
    (case c__law_least => k_is)
    (case k__law_least => k_is)
    (case a__law_due => k_is)
    (case l__law_due => k_is)
    (case c__law_due => k_is)
    (case k__law_due => k_is)
    (case a__law_changed => k_is)
    (case l__law_changed => k_is)
    (case c__law_changed => k_is)
    (case k__law_changed => k_is)
    (case a_law => k_is)
    (case l_law => k_is)
    (case c_law => k_is)
    (case k_law => k_is)
    (case z_abs => k_is)
    (case z_dict => k_is)
    (case z_int => k_is)
    (case z_isinstance => k_is)
    (case z_len => k_is)
    (case z_list => k_is)
    (case z_max => k_is)
    (case z_min => k_is)
    (case z_range => k_is)
    (case z_repr => k_is)
    (case nolist => first | rfl | decide +kernel)