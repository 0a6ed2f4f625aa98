import PyProof.Rows.All
import Wide.All
import OpenK.AllK
import Wide.FinOn
import HandS.ForMost
import HandS.ForExc
import HandS.Conv
import HandS.Wide
import HandS.WideMore
import HandS.IsInst
import HandS.ExcInit
import HandS.ExcField
import HandS.TryMany
import HandS.Flow
import HandS.TupMul
import HandS.TupAny
import HandS.Zip
import HandS.CallSlots
import HandS.Style
import HandS.WideBits
import HandS.ClsMeth
import HandS.Defaults
import HandS.EndBits
import PyProof.ReprLen
import PySem.Challenge.RW_lettersback_k01_sizes_and_values
section
set_option Elab.async false
set_option linter.all false
set_option autoImplicit false
set_option maxRecDepth 100000
set_option maxHeartbeats 4000000
/-! DL0: pure data behind the hand layer's readings. -/
namespace DL
open PySem L2

/-! ### data, cells, results -/
inductive D where
  | non
  | bl (b : Bool)
  | int (i : Int)
  | str (x : Str)
  | tup (xs : List D)
  | lst (xs : List D)
  | dct (kvs : List (D × D))
  | obj (c : Nat) (fs : List (Str × D))
  | scr (xs : List D)
inductive Cell where
  | val (d : D)
  | own (d : D)
  | exc (c : Nat) (fs : List (Str × D))
abbrev DEnv := List (Option Cell)
inductive Res (α : Type) where
  | ok (a : α)
  | er (c : Nat) (fs : List (Str × D)) (env : DEnv)
  | bad
def Res.bind {α β : Type} : Res α → (α → Res β) → Res β
  | .ok a, f => f a
  | .er c fs e, _ => .er c fs e
  | .bad, _ => .bad
abbrev EM (α : Type) := DEnv → Res (α × DEnv)

/-! ### extension of heaps -/
def Ex (H H' : Hp) : Prop := ∀ a o, H a = some o → H' a = some o
theorem Ex.refl (H : Hp) : Ex H H := fun _ _ h => h
theorem Ex.trans {H H1 H2 : Hp} (a : Ex H H1) (b : Ex H1 H2) : Ex H H2 := fun x o h => b x o (a x o h)
theorem Ex.new {H : Hp} {p : Addr} {o : HO} (h : H p = none) : Ex H (upd H p o) := fun a u e => by
  rw [upd_ne (ne_of_none e h)]
  exact e
theorem Ex.back {H H' : Hp} {p : Addr} (e : Ex H H') (h : H' p = none) : H p = none := by
  cases h1 : H p with
  | none => rfl
  | some o =>
    rw [e p o h1] at h
    cases h
theorem Ex.mut {H H' : Hp} {p : Addr} {o : HO} (e : Ex H H') (h : H p = none) : Ex H (upd H' p o) := fun a u ha => by
  rw [upd_ne (ne_of_none ha h)]
  exact e a u ha
theorem Ex.upd2 {F H : Hp} {p : Addr} {o : HO} (e : Ex F H) : Ex (upd F p o) (upd H p o) := fun a u ha => by
  by_cases h : a = p
  · subst h
    rw [upd_same] at ha ⊢
    exact ha
  · rw [upd_ne h] at ha ⊢
    exact e a u ha
theorem ex_rd {H H' : Hp} {a : Addr} {u : HO} (e : Ex H H') (h : Rd H a u) : Rd H' a u := by
  rcases h with h | ⟨o, h⟩
  · exact Or.inl (e a _ h)
  · exact Or.inr ⟨o, e a _ h⟩
theorem ex_l {K : PySem.W.Frag} {H H' : Hp} {a : Addr} {xs : List V} (e : Ex H H') (h : SqL K H a xs) : SqL K H' a xs := by
  rcases h with h | h
  · exact Or.inl (ex_rd e h)
  · exact Or.inr h
theorem ex_t {K : PySem.W.Frag} {H H' : Hp} {a : Addr} {xs : List V} (e : Ex H H') (h : SqT K H a xs) : SqT K H' a xs := by
  rcases h with h | h
  · exact Or.inl (ex_rd e h)
  · exact Or.inr h
theorem sq_of {K : PySem.W.Frag} {H : Hp} {a : Addr} {xs : List V} (h : H a = some (.lst xs)) : SqL K H a xs := Or.inl (Or.inl h)
theorem st_of {K : PySem.W.Frag} {H : Hp} {a : Addr} {xs : List V} (h : H a = some (.tup xs)) : SqT K H a xs := Or.inl (Or.inl h)

/-! ### what is spoken of -/
structure Gm where
  P : Program
  w : World
  K : PySem.W.Frag
  cl : Nat → Addr
/-- .. and the exceptions that are in hand -/
structure Gx extends Gm where
  XA : Addr → Addr → Nat → Prop
  bp : Option (Nat × Addr)
instance : Coe Gx Gm := ⟨Gx.toGm⟩
def keyD : Key → D
  | .inl i => .int i
  | .inr x => .str x
mutual
inductive Rep (G : Gm) (H : Hp) : V → D → Prop
  | non : Rep G H .non .non
  | bl (b : Bool) : Rep G H (.bl b) (.bl b)
  | int (i : Int) : Rep G H (.int i) (.int i)
  | str (x : Str) : Rep G H (.str x) (.str x)
  | tup {a : Addr} {xs : List V} {ds : List D} : SqT G.K H a xs → RepL G H xs ds → Rep G H (.ref a) (.tup ds)
  | lst {a : Addr} {xs : List V} {ds : List D} : H a = some (.lst xs) → RepL G H xs ds → Rep G H (.ref a) (.lst ds)
  | scr {a : Addr} {xs : List V} {ds : List D} : SqL G.K H a xs → RepL G H xs ds → Rep G H (.ref a) (.scr ds)
  | dK {a : Addr} {kvs : List (Key × V)} {ds : List (D × D)} : H a = some (.dK kvs) → RepK G H kvs ds → Rep G H (.ref a) (.dct ds)
  | ins {a dx : Addr} {c : Nat} {fs : List (Str × V)} {gs : List (Str × D)} : H a = some (.ins (G.cl c) dx fs) → RepF G H fs gs → Rep G H (.ref a) (.obj c gs)
inductive RepL (G : Gm) (H : Hp) : List V → List D → Prop
  | nil : RepL G H [] []
  | cons {v : V} {vs : List V} {d : D} {ds : List D} : Rep G H v d → RepL G H vs ds → RepL G H (v :: vs) (d :: ds)
inductive RepK (G : Gm) (H : Hp) : List (Key × V) → List (D × D) → Prop
  | nil : RepK G H [] []
  | cons {k : Key} {v : V} {vs : List (Key × V)} {d : D} {ds : List (D × D)} : Rep G H v d → RepK G H vs ds → RepK G H ((k, v) :: vs) ((keyD k, d) :: ds)
inductive RepF (G : Gm) (H : Hp) : List (Str × V) → List (Str × D) → Prop
  | nil : RepF G H [] []
  | cons {k : Str} {v : V} {vs : List (Str × V)} {d : D} {ds : List (Str × D)} : Rep G H v d → RepF G H vs ds → RepF G H ((k, v) :: vs) ((k, d) :: ds)
end
mutual
theorem Rep.mono {G : Gm} {H H' : Hp} (e : Ex H H') : ∀ {v : V} {d : D}, Rep G H v d → Rep G H' v d
  | _, _, .non => .non
  | _, _, .bl b => .bl b
  | _, _, .int i => .int i
  | _, _, .str x => .str x
  | _, _, .tup h r => .tup (ex_t e h) (RepL.mono e r)
  | _, _, .lst h r => .lst (e _ _ h) (RepL.mono e r)
  | _, _, .scr h r => .scr (ex_l e h) (RepL.mono e r)
  | _, _, .dK h r => .dK (e _ _ h) (RepK.mono e r)
  | _, _, .ins h r => .ins (e _ _ h) (RepF.mono e r)
theorem RepL.mono {G : Gm} {H H' : Hp} (e : Ex H H') : ∀ {v : List V} {d : List D}, RepL G H v d → RepL G H' v d
  | _, _, .nil => .nil
  | _, _, .cons h r => .cons (Rep.mono e h) (RepL.mono e r)
theorem RepK.mono {G : Gm} {H H' : Hp} (e : Ex H H') : ∀ {v : List (Key × V)} {d : List (D × D)}, RepK G H v d → RepK G H' v d
  | _, _, .nil => .nil
  | _, _, .cons h r => .cons (Rep.mono e h) (RepK.mono e r)
theorem RepF.mono {G : Gm} {H H' : Hp} (e : Ex H H') : ∀ {v : List (Str × V)} {d : List (Str × D)}, RepF G H v d → RepF G H' v d
  | _, _, .nil => .nil
  | _, _, .cons h r => .cons (Rep.mono e h) (RepF.mono e r)
end
section
variable {G : Gm} {H : Hp}
theorem RepL.length : ∀ {vs : List V} {ds : List D}, RepL G H vs ds → vs.length = ds.length
  | _, _, .nil => rfl
  | _, _, .cons _ r => congrArg (· + 1) (RepL.length r)
theorem RepL.get : ∀ {vs : List V} {ds : List D} {i : Nat} {d : D}, RepL G H vs ds → ds[i]? = some d → ∃ v, vs[i]? = some v ∧ Rep G H v d
  | _, _, _, _, .nil, e => by simp at e
  | _, _, 0, _, .cons h _, e => by
    simp at e
    subst e
    exact ⟨_, rfl, h⟩
  | _, _, i + 1, d, .cons _ r, e => by
    obtain ⟨v, h1, h2⟩ := RepL.get (i := i) (d := d) r (by simpa using e)
    exact ⟨v, by simpa using h1, h2⟩
theorem RepL.getV : ∀ {vs : List V} {ds : List D} {i : Nat} {v : V}, RepL G H vs ds → vs[i]? = some v → ∃ d, ds[i]? = some d ∧ Rep G H v d
  | _, _, _, _, .nil, e => by simp at e
  | _, _, 0, _, .cons h _, e => by
    simp at e
    subst e
    exact ⟨_, rfl, h⟩
  | _, _, i + 1, d, .cons _ r, e => by
    obtain ⟨v, h1, h2⟩ := RepL.getV (i := i) (v := d) r (by simpa using e)
    exact ⟨v, by simpa using h1, h2⟩
theorem RepL.append : ∀ {vs ws : List V} {ds es : List D}, RepL G H vs ds → RepL G H ws es → RepL G H (vs ++ ws) (ds ++ es)
  | _, _, _, _, .nil, s => s
  | _, _, _, _, .cons h r, s => .cons h (RepL.append r s)
theorem RepL.take : ∀ {vs : List V} {ds : List D} (n : Nat), RepL G H vs ds → RepL G H (vs.take n) (ds.take n)
  | _, _, 0, _ => .nil
  | _, _, _ + 1, .nil => .nil
  | _, _, n + 1, .cons r t => .cons r (RepL.take n t)
theorem RepL.drop : ∀ {vs : List V} {ds : List D} (n : Nat), RepL G H vs ds → RepL G H (vs.drop n) (ds.drop n)
  | _, _, 0, r => r
  | _, _, _ + 1, .nil => .nil
  | _, _, n + 1, .cons _ t => RepL.drop n t
theorem RepL.set {v : V} {d : D} (r : Rep G H v d) : ∀ {vs : List V} {ds : List D} (i : Nat), RepL G H vs ds → RepL G H (vs.set i v) (ds.set i d)
  | _, _, _, .nil => .nil
  | _, _, 0, .cons _ t => .cons r t
  | _, _, i + 1, .cons q t => .cons q (RepL.set r i t)
theorem RepF.look : ∀ {vs : List (Str × V)} {ds : List (Str × D)} {f : Str} {d : D}, RepF G H vs ds → ds.lookup f = some d → ∃ v, vs.lookup f = some v ∧ Rep G H v d
  | _, _, _, _, .nil, e => by simp at e
  | _, _, f, d, .cons (k := k) h r, e => by
    rw [List.lookup_cons] at e
    cases hk : f == k with
    | true =>
      rw [hk] at e
      cases e
      exact ⟨_, by rw [List.lookup_cons, hk], h⟩
    | false =>
      rw [hk] at e
      obtain ⟨v, h1, h2⟩ := RepF.look r e
      exact ⟨v, by rw [List.lookup_cons, hk]; exact h1, h2⟩
end

/-! ### an owned object -/
def RepO (G : Gm) (F H : Hp) (p : Addr) : D → Prop
  | .lst ds => ∃ vs, H p = some (.lst vs) ∧ RepL G F vs ds
  | .dct ds => ∃ kvs, H p = some (.dK kvs) ∧ RepK G F kvs ds
  | .obj c gs => ∃ dx fs, H p = some (.ins (G.cl c) dx fs) ∧ RepF G F fs gs
  | _ => False
theorem RepO.at {G : Gm} {F F' H H' : Hp} {p : Addr} {d : D} (r : RepO G F H p d) (e : Ex F F') (h : ∀ o, H p = some o → H' p = some o) : RepO G F' H' p d := by
  cases d with
  | lst ds =>
    obtain ⟨vs, h1, h2⟩ := r
    exact ⟨vs, h _ h1, h2.mono e⟩
  | dct ds =>
    obtain ⟨vs, h1, h2⟩ := r
    exact ⟨vs, h _ h1, h2.mono e⟩
  | obj c gs =>
    obtain ⟨dx, vs, h1, h2⟩ := r
    exact ⟨dx, vs, h _ h1, h2.mono e⟩
  | _ => exact r.elim
theorem RepO.is {G : Gm} {F H : Hp} {p : Addr} {d : D} (r : RepO G F H p d) : ∃ o, H p = some o := by
  cases d with
  | lst ds => obtain ⟨vs, h1, _⟩ := r; exact ⟨_, h1⟩
  | dct ds => obtain ⟨vs, h1, _⟩ := r; exact ⟨_, h1⟩
  | obj c gs => obtain ⟨dx, vs, h1, _⟩ := r; exact ⟨_, h1⟩
  | _ => exact r.elim
/-- frozen: the object at p put into F -/
theorem RepO.freeze {G : Gm} {F H : Hp} {p : Addr} {d : D} (r : RepO G F H p d) (hp : F p = none) : ∃ o, H p = some o ∧ Rep G (upd F p o) (.ref p) d := by
  cases d with
  | lst ds =>
    obtain ⟨vs, h1, h2⟩ := r
    exact ⟨_, h1, .lst upd_same (h2.mono (Ex.new hp))⟩
  | dct ds =>
    obtain ⟨vs, h1, h2⟩ := r
    exact ⟨_, h1, .dK upd_same (h2.mono (Ex.new hp))⟩
  | obj c gs =>
    obtain ⟨dx, vs, h1, h2⟩ := r
    exact ⟨_, h1, .ins upd_same (h2.mono (Ex.new hp))⟩
  | _ => exact r.elim

/-! ### the slots represent an environment -/
structure RepS (G : Gx) (B F0 F H : Hp) (σ : L2.St) (env : DEnv) : Prop where
  bh : Ex B H
  f0 : Ex F0 F
  fh : Ex F H
  fr : ∀ a o, F a = some o → (∃ u, F0 a = some u) ∨ B a = none
  len : env.length = σ.length
  val : ∀ (i : Nat) (d : D), env[i]? = some (some (.val d)) → ∃ v, σ[i]? = some (some v) ∧ Rep G F v d
  own : ∀ (i : Nat) (d : D), env[i]? = some (some (.own d)) → ∃ p, σ[i]? = some (some (.ref p)) ∧ RepO G F H p d ∧ F p = none ∧ B p = none
  sep : ∀ (i j : Nat) (d e : D) (p : Addr), i ≠ j → env[i]? = some (some (.own d)) → env[j]? = some (some (.own e)) → σ[i]? = some (some (.ref p)) → σ[j]? ≠ some (some (.ref p))
  exc : ∀ (i c : Nat) (fs : List (Str × D)), env[i]? = some (some (.exc c fs)) → ∃ a dd fvs, σ[i]? = some (some (.ref a)) ∧ G.XA a dd c ∧ F dd = some (.xd fvs) ∧ RepF G F fvs fs
  pin : ∀ (i : Nat) (p : Addr) (d : D), G.bp = some (i, p) → env[i]? = some (some (.own d)) → σ[i]? = some (some (.ref p))

/-- new things came, all that stood stands -/
structure Grow (F H F' H' : Hp) : Prop where
  f : Ex F F'
  h : Ex H H'
  fh : Ex F' H'
  fr : ∀ a o, F' a = some o → (∃ u, F a = some u) ∨ H a = none
theorem Grow.refl {F H : Hp} (e : Ex F H) : Grow F H F H := ⟨Ex.refl F, Ex.refl H, e, fun a o h => .inl ⟨o, h⟩⟩
theorem Grow.trans {F H F1 H1 F2 H2 : Hp} (a : Grow F H F1 H1) (b : Grow F1 H1 F2 H2) : Grow F H F2 H2 :=
  ⟨a.f.trans b.f, a.h.trans b.h, b.fh, fun x o h => by
    rcases b.fr x o h with ⟨u, q⟩ | q
    · exact a.fr x u q
    · exact .inr (a.h.back q)⟩
/-- a new frozen object -/
theorem Grow.new {F H : Hp} {p : Addr} {o : HO} (e : Ex F H) (h : H p = none) : Grow F H (upd F p o) (upd H p o) :=
  ⟨Ex.new (e.back h), Ex.new h, e.upd2, fun a u q => by
    by_cases hp : a = p
    · rw [hp]; exact .inr h
    · rw [upd_ne hp] at q
      exact .inl ⟨u, q⟩⟩
theorem Grow.newH {F H : Hp} {p : Addr} {o : HO} (e : Ex F H) (h : H p = none) : Grow F H F (upd H p o) :=
  ⟨Ex.refl F, Ex.new h, e.mut (e.back h), fun a u q => .inl ⟨u, q⟩⟩
section
variable {G : Gx} {B F0 F H F' H' : Hp} {σ : L2.St} {env : DEnv}
theorem RepS.grow (r : RepS G B F0 F H σ env) (g : Grow F H F' H') : RepS G B F0 F' H' σ env where
  bh := r.bh.trans g.h
  f0 := r.f0.trans g.f
  fh := g.fh
  fr := fun a o q => by
    rcases g.fr a o q with ⟨u, h⟩ | h
    · exact r.fr a u h
    · exact .inr (r.bh.back h)
  len := r.len
  val := fun i d e => by
    obtain ⟨v, h1, h2⟩ := r.val i d e
    exact ⟨v, h1, h2.mono g.f⟩
  own := fun i d e => by
    obtain ⟨p, h1, h2, h3, h4⟩ := r.own i d e
    refine ⟨p, h1, h2.at g.f fun o q => g.h p o q, ?_, h4⟩
    cases q : F' p with
    | none => rfl
    | some o =>
      rcases g.fr p o q with ⟨u, h⟩ | h
      · rw [h3] at h; cases h
      · obtain ⟨z, hz⟩ := h2.is
        rw [h] at hz; cases hz
  sep := r.sep
  exc := fun i c fs e => by
    obtain ⟨a, dd, fvs, h1, h2, h3, h4⟩ := r.exc i c fs e
    exact ⟨a, dd, fvs, h1, h2, g.f _ _ h3, h4.mono g.f⟩
  pin := r.pin
end

/-! ### canonical readings -/
def EPost (G : Gx) (B F0 F : Hp) (σ : L2.St) (W : WX) (Q : VK) : Res (D × DEnv) → Prop
  | .ok (d, env') => ∀ v F' H', RepS G B F0 F' H' σ env' → Ex F F' → Rep G F' v d → Q v H'
  | .er c fs env' => ∀ dx F' H' fvs, RepS G B F0 F' H' σ env' → Ex F F' → F' dx = some (.xd fvs) → RepF G F' fvs fs → W (.ref (G.cl c)) (some dx) σ H'
  | .bad => False
def eG (G : Gx) (f : EM D) (W : WX) : TE := fun σ H Q => ∃ B F0 F env, RepS G B F0 F H σ env ∧ EPost G B F0 F σ W Q (f env)
def APost (G : Gx) (B F0 F : Hp) (σ : L2.St) (W : WX) (Q : List V → Hp → Prop) : Res (List D × DEnv) → Prop
  | .ok (ds, env') => ∀ vs F' H', RepS G B F0 F' H' σ env' → Ex F F' → RepL G F' vs ds → Q vs H'
  | .er c fs env' => ∀ dx F' H' fvs, RepS G B F0 F' H' σ env' → Ex F F' → F' dx = some (.xd fvs) → RepF G F' fvs fs → W (.ref (G.cl c)) (some dx) σ H'
  | .bad => False
def aG (G : Gx) (f : EM (List D)) (W : WX) : TA := fun σ H Q => ∃ B F0 F env, RepS G B F0 F H σ env ∧ APost G B F0 F σ W Q (f env)
def TPost (G : Gx) (B F0 F : Hp) (σ : L2.St) (W : WX) (Q : Bool → Hp → Prop) : Res (Bool × DEnv) → Prop
  | .ok (b, env') => ∀ F' H', RepS G B F0 F' H' σ env' → Ex F F' → Q b H'
  | .er c fs env' => ∀ dx F' H' fvs, RepS G B F0 F' H' σ env' → Ex F F' → F' dx = some (.xd fvs) → RepF G F' fvs fs → W (.ref (G.cl c)) (some dx) σ H'
  | .bad => False
def tG (G : Gx) (f : EM Bool) (W : WX) : TT := fun σ H Q => ∃ B F0 F env, RepS G B F0 F H σ env ∧ TPost G B F0 F σ W Q (f env)

inductive SR where
  | nx (env : DEnv)
  | rt (c : Cell) (env : DEnv)
  | bk (env : DEnv)
  | ct (env : DEnv)
  | er (c : Nat) (fs : List (Str × D)) (env : DEnv)
  | bad
abbrev SM := DEnv → SR
/-- what is handed back: a value, or an object that nothing else holds -/
def RepC (G : Gx) (B F H : Hp) (v : V) : Cell → Prop
  | .val d => Rep G F v d
  | .own d => ∃ p, v = .ref p ∧ RepO G F H p d ∧ F p = none ∧ B p = none
  | .exc _ _ => False
def SPost (G : Gx) (B F0 : Hp) (W : WX) (D : Ends) : SR → Prop
  | .nx env' => ∀ σ' F' H', RepS G B F0 F' H' σ' env' → D.nx σ' H'
  | .bk env' => ∀ σ' F' H', RepS G B F0 F' H' σ' env' → D.bk σ' H'
  | .ct env' => ∀ σ' F' H', RepS G B F0 F' H' σ' env' → D.ct σ' H'
  | .rt c env' => ∀ v σ' F' H', RepS G B F0 F' H' σ' env' → RepC G B F' H' v c → D.rt v H'
  | .er c fs env' => ∀ dx σ' F' H' fvs, RepS G B F0 F' H' σ' env' → F' dx = some (.xd fvs) → RepF G F' fvs fs → W (.ref (G.cl c)) (some dx) σ' H'
  | .bad => False
def sG (G : Gx) (f : SM) (W : WX) : TS := fun D σ H => ∃ B F0 F env, RepS G B F0 F H σ env ∧ SPost G B F0 W D (f env)

section
variable {X : Cx}
theorem PE.imp {e : Expr} {t t' : TE} (h : PE X e t) (k : ∀ σ H Q, t' σ H Q → t σ H Q) : PE X e t' := ⟨fun pins s σ H Q I q => h.run pins s σ H Q I (k σ H Q q)⟩
theorem PT.imp {e : Expr} {t t' : TT} (h : PT X e t) (k : ∀ σ H Q, t' σ H Q → t σ H Q) : PT X e t' := ⟨fun pins s σ H Q I q => h.run pins s σ H Q I (k σ H Q q)⟩
theorem PW.imp {e : Expr} {t t' : TT} (h : PW X e t) (k : ∀ σ H Q, t' σ H Q → t σ H Q) : PW X e t' := ⟨fun wh pins s σ H Q I q => h.run wh pins s σ H Q I (k σ H Q q)⟩
theorem PA.imp {e : List Expr} {t t' : TA} (h : PA X e t) (k : ∀ σ H Q, t' σ H Q → t σ H Q) : PA X e t' := ⟨fun pos pins s σ H Q I q => h.run pos pins s σ H Q I (k σ H Q q)⟩
theorem PS.imp {e : Stmt} {t t' : TS} (h : PS X e t) (k : ∀ D σ H, t' D σ H → t D σ H) : PS X e t' := ⟨fun pins s σ H D I q => h.run pins s σ H D I (k D σ H q)⟩
theorem PSs.imp {e : List Stmt} {t t' : TS} (h : PSs X e t) (k : ∀ D σ H, t' D σ H → t D σ H) : PSs X e t' := ⟨fun pins s σ H D I q => h.run pins s σ H D I (k D σ H q)⟩
end
end DL
end

section
set_option Elab.async false
set_option linter.all false
set_option autoImplicit false
set_option maxRecDepth 100000
set_option maxHeartbeats 4000000
/-! DL1: expressions. -/
namespace DL
open PySem L2

/-! ### meanings -/
def bnd {α β : Type} (a : EM α) (k : α → EM β) : EM β := fun env => (a env).bind fun x => k x.1 x.2
def ofO {α : Type} (o : Option α) : EM α := fun env => match o with
  | some d => .ok (d, env)
  | none => .bad
def eC (d : D) : EM D := fun env => .ok (d, env)
def eV (i : Nat) : EM D := fun env => match env[i]? with
  | some (some (.val d)) => .ok (d, env)
  | _ => .bad
def eOp (f : D → D → Option D) (a b : EM D) : EM D := bnd a fun x => bnd b fun y => ofO (f x y)
def eUn (f : D → Option D) (a : EM D) : EM D := bnd a fun x => ofO (f x)
def aNil : EM (List D) := fun env => .ok ([], env)
def aCons (a : EM D) (r : EM (List D)) : EM (List D) := bnd a fun x => bnd r fun xs => fun env => .ok (x :: xs, env)
def eTup (a : EM (List D)) : EM D := bnd a fun xs => ofO (if xs.length ≤ 1000000 then some (.tup xs) else none)
def eLst (a : EM (List D)) : EM D := bnd a fun xs => ofO (if xs.length ≤ 1000000 then some (.lst xs) else none)
/-- a call by data -/
def eApp (f : List D → Option D) (a : EM (List D)) : EM D := bnd a fun xs => ofO (f xs)
def toB (a : EM D) : EM Bool := bnd a fun d => ofO (match d with | .bl b => some b | _ => none)
def ofB (a : EM Bool) : EM D := bnd a fun b => eC (.bl b)
def tNo (a : EM Bool) : EM Bool := bnd a fun b => fun env => .ok (!b, env)
def tAn (a b : EM Bool) : EM Bool := bnd a fun x => if x = true then b else fun env => .ok (false, env)
def tOt (a b : EM Bool) : EM Bool := bnd a fun x => if x = true then (fun env => .ok (true, env)) else b
def eIf (c : EM Bool) (a b : EM D) : EM D := bnd c fun x => if x = true then a else b

section
variable {G : Gx} {B F0 F F' : Hp} {σ : L2.St} {W : WX}
theorem EPost.mono {Q : VK} (e : Ex F F') : ∀ {r : Res (D × DEnv)}, EPost G B F0 F σ W Q r → EPost G B F0 F' σ W Q r
  | .ok (d, env'), h => fun v F2 H2 rs e2 rp => h v F2 H2 rs (e.trans e2) rp
  | .er c fs env', h => fun dx F2 H2 fvs rs e2 => h dx F2 H2 fvs rs (e.trans e2)
  | .bad, h => h
theorem APost.mono {Q : List V → Hp → Prop} (e : Ex F F') : ∀ {r : Res (List D × DEnv)}, APost G B F0 F σ W Q r → APost G B F0 F' σ W Q r
  | .ok (d, env'), h => fun v F2 H2 rs e2 rp => h v F2 H2 rs (e.trans e2) rp
  | .er c fs env', h => fun dx F2 H2 fvs rs e2 => h dx F2 H2 fvs rs (e.trans e2)
  | .bad, h => h
theorem TPost.mono {Q : Bool → Hp → Prop} (e : Ex F F') : ∀ {r : Res (Bool × DEnv)}, TPost G B F0 F σ W Q r → TPost G B F0 F' σ W Q r
  | .ok (d, env'), h => fun F2 H2 rs e2 => h F2 H2 rs (e.trans e2)
  | .er c fs env', h => fun dx F2 H2 fvs rs e2 => h dx F2 H2 fvs rs (e.trans e2)
  | .bad, h => h
end
/-- as eG, aG, tG, with what is known of F carried -/
def eGC (G : Gx) (C : Hp → Prop) (f : EM D) (W : WX) (σ : L2.St) (H : Hp) (Q : VK) : Prop := ∃ B F0 F env, RepS G B F0 F H σ env ∧ C F ∧ EPost G B F0 F σ W Q (f env)
def aGC (G : Gx) (C : Hp → Prop) (f : EM (List D)) (W : WX) (σ : L2.St) (H : Hp) (Q : List V → Hp → Prop) : Prop := ∃ B F0 F env, RepS G B F0 F H σ env ∧ C F ∧ APost G B F0 F σ W Q (f env)
def tGC (G : Gx) (C : Hp → Prop) (f : EM Bool) (W : WX) (σ : L2.St) (H : Hp) (Q : Bool → Hp → Prop) : Prop := ∃ B F0 F env, RepS G B F0 F H σ env ∧ C F ∧ TPost G B F0 F σ W Q (f env)
def Up (C : Hp → Prop) : Prop := ∀ F F', Ex F F' → C F → C F'
theorem up_true : Up fun _ => True := fun _ _ _ _ => True.intro
theorem up_rep {G : Gm} {v : V} {d : D} : Up fun F => Rep G F v d := fun _ _ e h => h.mono e
theorem up_repl {G : Gm} {v : List V} {d : List D} : Up fun F => RepL G F v d := fun _ _ e h => h.mono e
theorem Up.and {C C' : Hp → Prop} (a : Up C) (b : Up C') : Up fun F => C F ∧ C' F := fun F F' e h => ⟨a F F' e h.1, b F F' e h.2⟩
section
variable {G : Gx} {C : Hp → Prop} {σ : L2.St} {H : Hp} {W : WX} {fa : EM D} {Q : VK}
theorem eG.c (h : eG G fa W σ H Q) : eGC G (fun _ => True) fa W σ H Q := by
  obtain ⟨B, F0, F, env, rs, p⟩ := h
  exact ⟨B, F0, F, env, rs, True.intro, p⟩
theorem eGC.e (h : eGC G C fa W σ H Q) : eG G fa W σ H Q := by
  obtain ⟨B, F0, F, env, rs, _, p⟩ := h
  exact ⟨B, F0, F, env, rs, p⟩
theorem tG.c {ft : EM Bool} {Q : Bool → Hp → Prop} (h : tG G ft W σ H Q) : tGC G (fun _ => True) ft W σ H Q := by
  obtain ⟨B, F0, F, env, rs, p⟩ := h
  exact ⟨B, F0, F, env, rs, True.intro, p⟩
theorem tGC.e {ft : EM Bool} {Q : Bool → Hp → Prop} (h : tGC G C ft W σ H Q) : tG G ft W σ H Q := by
  obtain ⟨B, F0, F, env, rs, _, p⟩ := h
  exact ⟨B, F0, F, env, rs, p⟩
theorem aG.c {ft : EM (List D)} {Q : List V → Hp → Prop} (h : aG G ft W σ H Q) : aGC G (fun _ => True) ft W σ H Q := by
  obtain ⟨B, F0, F, env, rs, p⟩ := h
  exact ⟨B, F0, F, env, rs, True.intro, p⟩
theorem aGC.e {ft : EM (List D)} {Q : List V → Hp → Prop} (h : aGC G C ft W σ H Q) : aG G ft W σ H Q := by
  obtain ⟨B, F0, F, env, rs, _, p⟩ := h
  exact ⟨B, F0, F, env, rs, p⟩
/-- an expression first, an expression behind it -/
theorem eGC_bnd (up : Up C) {k : D → EM D} {R : VK} (h : eGC G C (bnd fa k) W σ H Q) (kk : ∀ v d H', eGC G (fun F => C F ∧ Rep G F v d) (k d) W σ H' Q → R v H') : eG G fa W σ H R := by
  obtain ⟨B, F0, F, env, rs, hC, p⟩ := h
  refine ⟨B, F0, F, env, rs, ?_⟩
  unfold bnd at p
  cases hf : fa env with
  | ok x =>
    rw [hf] at p
    intro v F' H' rs' e rp
    exact kk v x.1 H' ⟨B, F0, F', x.2, rs', ⟨up _ _ e hC, rp⟩, EPost.mono e p⟩
  | er c fs e => rw [hf] at p; exact p
  | bad => rw [hf] at p; exact p
theorem eGA_bnd (up : Up C) {k : D → EM (List D)} {Q : List V → Hp → Prop} {R : VK} (h : aGC G C (bnd fa k) W σ H Q) (kk : ∀ v d H', aGC G (fun F => C F ∧ Rep G F v d) (k d) W σ H' Q → R v H') : eG G fa W σ H R := by
  obtain ⟨B, F0, F, env, rs, hC, p⟩ := h
  refine ⟨B, F0, F, env, rs, ?_⟩
  unfold bnd at p
  cases hf : fa env with
  | ok x =>
    rw [hf] at p
    intro v F' H' rs' e rp
    exact kk v x.1 H' ⟨B, F0, F', x.2, rs', ⟨up _ _ e hC, rp⟩, APost.mono e p⟩
  | er c fs e => rw [hf] at p; exact p
  | bad => rw [hf] at p; exact p
theorem aGA_bnd (up : Up C) {fa : EM (List D)} {k : List D → EM (List D)} {Q : List V → Hp → Prop} {R : List V → Hp → Prop} (h : aGC G C (bnd fa k) W σ H Q) (kk : ∀ v d H', aGC G (fun F => C F ∧ RepL G F v d) (k d) W σ H' Q → R v H') : aG G fa W σ H R := by
  obtain ⟨B, F0, F, env, rs, hC, p⟩ := h
  refine ⟨B, F0, F, env, rs, ?_⟩
  unfold bnd at p
  cases hf : fa env with
  | ok x =>
    rw [hf] at p
    intro v F' H' rs' e rp
    exact kk v x.1 H' ⟨B, F0, F', x.2, rs', ⟨up _ _ e hC, rp⟩, APost.mono e p⟩
  | er c fs e => rw [hf] at p; exact p
  | bad => rw [hf] at p; exact p
theorem aGE_bnd (up : Up C) {fa : EM (List D)} {k : List D → EM D} {R : List V → Hp → Prop} (h : eGC G C (bnd fa k) W σ H Q) (kk : ∀ v d H', eGC G (fun F => C F ∧ RepL G F v d) (k d) W σ H' Q → R v H') : aG G fa W σ H R := by
  obtain ⟨B, F0, F, env, rs, hC, p⟩ := h
  refine ⟨B, F0, F, env, rs, ?_⟩
  unfold bnd at p
  cases hf : fa env with
  | ok x =>
    rw [hf] at p
    intro v F' H' rs' e rp
    exact kk v x.1 H' ⟨B, F0, F', x.2, rs', ⟨up _ _ e hC, rp⟩, EPost.mono e p⟩
  | er c fs e => rw [hf] at p; exact p
  | bad => rw [hf] at p; exact p
theorem eGT_bnd (up : Up C) {k : D → EM Bool} {Q : Bool → Hp → Prop} {R : VK} (h : tGC G C (bnd fa k) W σ H Q) (kk : ∀ v d H', tGC G (fun F => C F ∧ Rep G F v d) (k d) W σ H' Q → R v H') : eG G fa W σ H R := by
  obtain ⟨B, F0, F, env, rs, hC, p⟩ := h
  refine ⟨B, F0, F, env, rs, ?_⟩
  unfold bnd at p
  cases hf : fa env with
  | ok x =>
    rw [hf] at p
    intro v F' H' rs' e rp
    exact kk v x.1 H' ⟨B, F0, F', x.2, rs', ⟨up _ _ e hC, rp⟩, TPost.mono e p⟩
  | er c fs e => rw [hf] at p; exact p
  | bad => rw [hf] at p; exact p
theorem tGT_bnd (up : Up C) {fa : EM Bool} {k : Bool → EM Bool} {Q : Bool → Hp → Prop} {R : Bool → Hp → Prop} (h : tGC G C (bnd fa k) W σ H Q) (kk : ∀ b H', tGC G C (k b) W σ H' Q → R b H') : tG G fa W σ H R := by
  obtain ⟨B, F0, F, env, rs, hC, p⟩ := h
  refine ⟨B, F0, F, env, rs, ?_⟩
  unfold bnd at p
  cases hf : fa env with
  | ok x =>
    rw [hf] at p
    intro F' H' rs' e
    exact kk x.1 H' ⟨B, F0, F', x.2, rs', up _ _ e hC, TPost.mono e p⟩
  | er c fs e => rw [hf] at p; exact p
  | bad => rw [hf] at p; exact p
theorem tGE_bnd (up : Up C) {fa : EM Bool} {k : Bool → EM D} {R : Bool → Hp → Prop} (h : eGC G C (bnd fa k) W σ H Q) (kk : ∀ b H', eGC G C (k b) W σ H' Q → R b H') : tG G fa W σ H R := by
  obtain ⟨B, F0, F, env, rs, hC, p⟩ := h
  refine ⟨B, F0, F, env, rs, ?_⟩
  unfold bnd at p
  cases hf : fa env with
  | ok x =>
    rw [hf] at p
    intro F' H' rs' e
    exact kk x.1 H' ⟨B, F0, F', x.2, rs', up _ _ e hC, EPost.mono e p⟩
  | er c fs e => rw [hf] at p; exact p
  | bad => rw [hf] at p; exact p
/-- a value that is there -/
theorem eGC_ofO {o : Option D} (h : eGC G C (ofO o) W σ H Q) : ∃ F d, o = some d ∧ Ex F H ∧ C F ∧ ∀ v F' H', Grow F H F' H' → Rep G F' v d → Q v H' := by
  obtain ⟨B, F0, F, env, rs, hC, p⟩ := h
  cases o with
  | none => exact p.elim
  | some d => exact ⟨F, d, rfl, rs.fh, hC, fun v F' H' g rp => p v F' H' (rs.grow g) g.f rp⟩
theorem eGC_eC {d : D} (h : eGC G C (eC d) W σ H Q) : ∃ F, Ex F H ∧ C F ∧ ∀ v F' H', Grow F H F' H' → Rep G F' v d → Q v H' := by
  obtain ⟨B, F0, F, env, rs, hC, p⟩ := h
  exact ⟨F, rs.fh, hC, fun v F' H' g rp => p v F' H' (rs.grow g) g.f rp⟩
theorem aGC_ret {d : List D} {Q : List V → Hp → Prop} (h : aGC G C (fun env => .ok (d, env)) W σ H Q) : ∃ F, Ex F H ∧ C F ∧ ∀ v F' H', Grow F H F' H' → RepL G F' v d → Q v H' := by
  obtain ⟨B, F0, F, env, rs, hC, p⟩ := h
  exact ⟨F, rs.fh, hC, fun v F' H' g rp => p v F' H' (rs.grow g) g.f rp⟩
theorem tGC_ret {d : Bool} {Q : Bool → Hp → Prop} (h : tGC G C (fun env => .ok (d, env)) W σ H Q) : Q d H := by
  obtain ⟨B, F0, F, env, rs, hC, p⟩ := h
  exact p F H rs (Ex.refl F)
theorem tGC_ofO {o : Option Bool} {Q : Bool → Hp → Prop} (h : tGC G C (ofO o) W σ H Q) : ∃ F b, o = some b ∧ Ex F H ∧ C F ∧ Q b H := by
  obtain ⟨B, F0, F, env, rs, hC, p⟩ := h
  cases o with
  | none => exact p.elim
  | some d => exact ⟨F, d, rfl, rs.fh, hC, p F H rs (Ex.refl F)⟩
end

/-! ### operations on data -/
def OpD (G : Gm) (r : R2) (f : D → D → Option D) : Prop := ∀ F H x y d e z (Q : VK), Ex F H → Rep G F x d → Rep G F y e → f d e = some z → (∀ v F' H', Grow F H F' H' → Rep G F' v z → Q v H') → r x y H Q
def UnD (G : Gm) (r : V → Hp → VK → Prop) (f : D → Option D) : Prop := ∀ F H x d z (Q : VK), Ex F H → Rep G F x d → f d = some z → (∀ v F' H', Grow F H F' H' → Rep G F' v z → Q v H') → r x H Q
def AppD (G : Gm) (r : List V → Hp → VK → Prop) (f : List D → Option D) : Prop := ∀ F H xs ds z (Q : VK), Ex F H → RepL G F xs ds → f ds = some z → (∀ v F' H', Grow F H F' H' → Rep G F' v z → Q v H') → r xs H Q

section
variable {G : Gx} {X : Cx} {W : WX} {a b c : Expr} {fa fb fc : EM D} {pos p : Pos} {es : List Expr}
theorem de_var {i : Nat} {x : Str} (hN : X.N[i]? = some x := by rfl) (hv : Vis X.env.scope x := by first | exact Or.inl rfl | exact Or.inr (Or.inl rfl) | exact Or.inr (Or.inr rfl)) (hd : (x == ("__debug__" : Str)) = false := by decide)
    (hcd : (x == ("__classdict__" : Str)) = false := by decide) : PE X (.Name x pos) (eG G (eV i) W) := by
  refine PE.imp (pe_var hN hv hd hcd) fun σ H Q ⟨B, F0, F, env, rs, p⟩ => ?_
  unfold eV at p
  split at p
  · rename_i d he
    obtain ⟨v, h1, h2⟩ := rs.val i d he
    exact ⟨v, h1, p v F H rs (Ex.refl F) h2⟩
  · exact p.elim
theorem de_const {v : V} {d : D} (h : PE X a (tC v)) (r : ∀ F, Rep G F v d) : PE X a (eG G (eC d) W) := by
  refine PE.imp h fun σ H Q ⟨B, F0, F, env, rs, p⟩ => ?_
  exact p v F H rs (Ex.refl F) (r F)
theorem de_int {i : Int} {j} : PE X (.Constant (.int i) j pos) (eG G (eC (.int i)) W) := de_const pe_int fun _ => .int i
theorem de_bl {i : Bool} {j} : PE X (.Constant (.bool i) j pos) (eG G (eC (.bl i)) W) := de_const pe_bl fun _ => .bl i
theorem de_non {j} : PE X (.Constant .none j pos) (eG G (eC .non) W) := de_const pe_non fun _ => .non
theorem de_str {i : Str} {j} : PE X (.Constant (.str i) j pos) (eG G (eC (.str i)) W) := de_const pe_str fun _ => .str i
/-- a module's constant that is an int -/
theorem de_gint {x : Str} {i : Int} (hm : ∃ t, X.mg x = some (.int i t)) (hg : Gl X x := by rfl) (hd : (x == ("__debug__" : Str)) = false := by decide) : PE X (.Name x pos) (eG G (eC (.int i)) W) := by
  obtain ⟨t, hm⟩ := hm
  exact de_const (pe_glob (v := .int i) hg hm ⟨t, rfl⟩ hd) fun _ => .int i
theorem de_gstr {x : Str} {i : Str} (hm : ∃ t, X.mg x = some (.str i t)) (hg : Gl X x := by rfl) (hd : (x == ("__debug__" : Str)) = false := by decide) : PE X (.Name x pos) (eG G (eC (.str i)) W) := by
  obtain ⟨t, hm⟩ := hm
  exact de_const (pe_glob (v := .str i) hg hm ⟨t, rfl⟩ hd) fun _ => .str i
theorem eG_op {r : R2} {f : D → D → Option D} (hf : OpD G r f) {σ : L2.St} {H : Hp} {Q : VK} (h : eG G (eOp f fa fb) W σ H Q) : tOp r (eG G fa W) (eG G fb W) σ H Q := by
  refine eGC_bnd up_true h.c fun v d H1 h1 => eGC_bnd (up_true.and up_rep) h1 fun u e H2 h2 => ?_
  obtain ⟨F, z, hz, ef, ⟨⟨_, r1⟩, r2⟩, q⟩ := eGC_ofO h2
  exact hf F H2 v u d e z Q ef r1 r2 hz q
theorem de_bin {op : Operator} {r : R2} {f : D → D → Option D} (ho : OpR X (binaryOp op) r) (hf : OpD G r f) (ha : PE X a (eG G fa W)) (hb : PE X b (eG G fb W)) : PE X (.BinOp a op b pos) (eG G (eOp f fa fb) W) :=
  PE.imp (pe_op ho ha hb) fun _ _ _ h => eG_op hf h
theorem de_cmp {op : CmpOp} {r : R2} {f : D → D → Option D} (ho : OpR X (compareOp op) r) (hf : OpD G r f) (ha : PE X a (eG G fa W)) (hb : PE X b (eG G fb W)) (hm : behindInMarks op b = false := by rfl) : PE X (.Compare a [op] [b] pos) (eG G (eOp f fa fb) W) :=
  PE.imp (pe_cmpR ho ha hb hm) fun _ _ _ h => eG_op hf h
theorem de_un {op : UnaryOp} {r : V → Hp → VK → Prop} {f : D → Option D} (ho : UnR X (unaryOp op) r) (hf : UnD G r f) (ha : PE X a (eG G fa W)) : PE X (.UnaryOp op a pos) (eG G (eUn f fa) W) := by
  refine PE.imp (pe_un ho ha) fun σ H Q h => ?_
  refine eGC_bnd up_true h.c fun v d H1 h1 => ?_
  obtain ⟨F, z, hz, ef, ⟨_, r1⟩, q⟩ := eGC_ofO h1
  exact hf F H1 v d z Q ef r1 hz q
theorem da_nil : PA X [] (aG G aNil W) := by
  refine PA.imp pa_nil fun σ H Q ⟨B, F0, F, env, rs, p⟩ => ?_
  exact p [] F H rs (Ex.refl F) .nil
theorem da_cons {fr : EM (List D)} (ha : PE X a (eG G fa W)) (hr : PA X es (aG G fr W)) (hs : starEach (a :: es) X.env = (false, eval a X.env) :: starEach es X.env := by rfl) : PA X (a :: es) (aG G (aCons fa fr) W) := by
  refine PA.imp (pa_cons ha hr hs) fun σ H Q h => ?_
  refine eGA_bnd up_true h.c fun v d H1 h1 => aGA_bnd (up_true.and up_rep) h1 fun vs ds H2 h2 => ?_
  obtain ⟨F, ef, ⟨⟨_, r1⟩, r2⟩, q⟩ := aGC_ret h2
  exact q (v :: vs) F H2 (Grow.refl ef) (.cons r1 r2)
theorem le_line {n : Nat} (h : n ≤ 1000000) : n ≤ sizeLine := Nat.le_trans h (by decide)
theorem lt_line {n : Nat} (h : n ≤ 1000000) : n < sizeLine := Nat.lt_of_le_of_lt h (by decide)
theorem de_tup {fr : EM (List D)} {k} (h : PA X es (aG G fr W)) : PE X (.Tuple es k pos) (eG G (eTup fr) W) := by
  refine PE.imp (pe_tup h) fun σ H Q h => ?_
  refine aGE_bnd up_true h.c fun vs ds H1 h1 => ?_
  obtain ⟨F, z, hz, ef, ⟨_, r1⟩, q⟩ := eGC_ofO h1
  split at hz
  · rename_i hl
    cases hz
    refine ⟨by rw [r1.length]; exact le_line hl, fun p hp => q _ _ _ (Grow.new ef hp) (.tup (st_of upd_same) (r1.mono (Ex.new (ef.back hp))))⟩
  · cases hz
theorem de_lst {fr : EM (List D)} (h : PA X es (aG G fr W)) : PE X (.List es pos) (eG G (eLst fr) W) := by
  refine PE.imp (pe_lst h) fun σ H Q h => ?_
  refine aGE_bnd up_true h.c fun vs ds H1 h1 => ?_
  obtain ⟨F, z, hz, ef, ⟨_, r1⟩, q⟩ := eGC_ofO h1
  split at hz
  · rename_i hl
    cases hz
    refine ⟨by rw [r1.length]; exact le_line hl, fun p hp => q _ _ _ (Grow.new ef hp) (.lst upd_same (r1.mono (Ex.new (ef.back hp))))⟩
  · cases hz
theorem de_dict0 : PE X (.Dict [] [] pos) (eG G (eC (.dct [])) W) := by
  refine PE.imp pe_dnewK fun σ H Q h => ?_
  obtain ⟨F, ef, _, q⟩ := eGC_eC h.c
  exact fun p hp => q _ _ _ (Grow.new ef hp) (.dK upd_same .nil)
/-- a built-in function | a built-in class called -/
theorem de_callB {x : Str} {id : String} {r : List V → Hp → VK → Prop} {f : List D → Option D} {fr : EM (List D)} (hc : CallR X (.builtin id) r) (hf : AppD G r f) (hm : X.mg x = none) (hv : bootBuiltins x = some (.builtin id)) (ha : PA X (a :: es) (aG G fr W)) (hg : Gl X x := by rfl) (hn : x ≠ "__name__" := by decide) (hdb : (x == ("__debug__" : Str)) = false := by decide)
    (he : starEach (a :: es) X.env = (false, eval a X.env) :: starEach es X.env := by rfl) (hpl : (backTo pos (starEach es X.env)).any (·.1) = false := by rfl) : PE X (.Call (.Name x p) (a :: es) [] pos) (eG G (eApp f fr) W) := by
  refine PE.imp (pe_callB hc hg hm hv ha hn hdb he hpl) fun σ H Q h => ?_
  refine aGE_bnd up_true h.c fun vs ds H1 h1 => ?_
  obtain ⟨F, z, hz, ef, ⟨_, r1⟩, q⟩ := eGC_ofO h1
  exact hf F H1 vs ds z Q ef r1 hz q
theorem de_callTy {x : Str} {T : String} {r : List V → Hp → VK → Prop} {f : List D → Option D} {fr : EM (List D)} (hc : CallR X (.type T) r) (hf : AppD G r f) (hm : X.mg x = none) (hv : bootBuiltins x = some (.type T)) (ha : PA X (a :: es) (aG G fr W)) (hg : Gl X x := by rfl) (hn : x ≠ "__name__" := by decide) (hdb : (x == ("__debug__" : Str)) = false := by decide)
    (he : starEach (a :: es) X.env = (false, eval a X.env) :: starEach es X.env := by rfl) (hpl : (backTo pos (starEach es X.env)).any (·.1) = false := by rfl) : PE X (.Call (.Name x p) (a :: es) [] pos) (eG G (eApp f fr) W) := by
  refine PE.imp (pe_callTy hc hg hm hv ha hn hdb he hpl) fun σ H Q h => ?_
  refine aGE_bnd up_true h.c fun vs ds H1 h1 => ?_
  obtain ⟨F, z, hz, ef, ⟨_, r1⟩, q⟩ := eGC_ofO h1
  exact hf F H1 vs ds z Q ef r1 hz q

/-! ### tests, and, or, not -/
theorem rep_bl {G : Gm} {H : Hp} {v : V} {k : Bool} (h : Rep G H v (.bl k)) : v = .bl k := by cases h; rfl
theorem rep_int {G : Gm} {H : Hp} {v : V} {k : Int} (h : Rep G H v (.int k)) : v = .int k := by cases h; rfl
theorem rep_str {G : Gm} {H : Hp} {v : V} {k : Str} (h : Rep G H v (.str k)) : v = .str k := by cases h; rfl
theorem rep_non {G : Gm} {H : Hp} {v : V} (h : Rep G H v .non) : v = .non := by cases h; rfl
theorem tG_toB {σ : L2.St} {H : Hp} {Q : Bool → Hp → Prop} (h : tG G (toB fa) W σ H Q) : eG G fa W σ H fun x H' => ∃ k, x = .bl k ∧ Q k H' := by
  refine eGT_bnd up_true h.c fun v d H1 h1 => ?_
  obtain ⟨F, z, hz, ef, ⟨_, r1⟩, q⟩ := tGC_ofO h1
  cases d with
  | bl k =>
    cases hz
    exact ⟨_, rep_bl r1, q⟩
  | _ => cases hz
/-- a value that is a bool, as a test -/
theorem dt_val (h : PE X a (eG G fa W)) (he : ∀ whole, isTrue a X.env whole = (do let v ← whole; standAt a.pos; holding [v] (truthy v)) := by intro _; rfl) : PT X a (tG G (toB fa) W) :=
  PT.imp (pt_val h he) fun _ _ _ h => tG_toB h
theorem dt_cmp {op : CmpOp} {r : R2} {f : D → D → Option D} (ho : OpR X (compareOp op) r) (hf : OpD G r f) (ha : PE X a (eG G fa W)) (hb : PE X b (eG G fb W)) (hm : behindInMarks op b = false := by rfl) : PT X (.Compare a [op] [b] pos) (tG G (toB (eOp f fa fb)) W) := by
  refine PT.imp (pt_cmpR ho ha hb hm) fun σ H Q h => ?_
  exact eG_op hf (tG_toB h)
theorem dt_not {ta : EM Bool} (h : PT X a (tG G ta W)) : PT X (.UnaryOp .Not a pos) (tG G (tNo ta) W) := by
  refine PT.imp (pt_not h) fun σ H Q h => ?_
  exact tGT_bnd up_true h.c fun k H1 h1 => tGC_ret h1
theorem dw_and1 {ta : EM Bool} (h : PT X a (tG G ta W)) : PW X (.BoolOp .And [a] pos) (tG G ta W) := pw_and1 h
theorem dw_or1 {ta : EM Bool} (h : PT X a (tG G ta W)) : PW X (.BoolOp .Or [a] pos) (tG G ta W) := pw_or1 h
theorem dw_and {ta tb : EM Bool} (ha : PT X a (tG G ta W)) (hb : PW X (.BoolOp .And (b :: es) pos) (tG G tb W)) : PW X (.BoolOp .And (a :: b :: es) pos) (tG G (tAn ta tb) W) := by
  refine PW.imp (pw_and ha hb) fun σ H Q h => ?_
  refine tGT_bnd up_true h.c fun k H1 h1 => ?_
  cases k with
  | true => exact h1.e
  | false => exact tGC_ret h1
theorem dw_or {ta tb : EM Bool} (ha : PT X a (tG G ta W)) (hb : PW X (.BoolOp .Or (b :: es) pos) (tG G tb W)) : PW X (.BoolOp .Or (a :: b :: es) pos) (tG G (tOt ta tb) W) := by
  refine PW.imp (pw_or ha hb) fun σ H Q h => ?_
  refine tGT_bnd up_true h.c fun k H1 h1 => ?_
  cases k with
  | true => exact tGC_ret h1
  | false => exact h1.e
/-! .. as values -/
theorem eG_toB {σ : L2.St} {H : Hp} {Q : VK} {k : Bool → EM D} {R : Bool → Hp → Prop} (h : eG G (bnd (toB fa) k) W σ H Q) (kk : ∀ b H', eG G (k b) W σ H' Q → R b H') : eG G fa W σ H fun x H' => ∃ c, x = .bl c ∧ R c H' :=
  tG_toB (tGE_bnd up_true h.c fun b H' h' => kk b H' h'.e)
theorem de_and1 {op} (h : PE X a (eG G fa W)) : PE X (.BoolOp op [a] pos) (eG G fa W) := pe_one h
def eAn (a b : EM D) : EM D := bnd (toB a) fun x => if x = true then b else eC (.bl false)
def eOt (a b : EM D) : EM D := bnd (toB a) fun x => if x = true then eC (.bl true) else b
def eNo (a : EM D) : EM D := bnd (toB a) fun x => eC (.bl (!x))
theorem de_and (ha : PE X a (eG G fa W)) (hb : PE X (.BoolOp .And (b :: es) pos) (eG G fb W)) : PE X (.BoolOp .And (a :: b :: es) pos) (eG G (eAn fa fb) W) := by
  refine PE.imp (pe_and ha hb) fun σ H Q h => ?_
  refine eG_toB h fun k H1 h1 => ?_
  cases k with
  | true => exact h1
  | false =>
    obtain ⟨F, ef, _, q⟩ := eGC_eC h1.c
    exact q _ F H1 (Grow.refl ef) (.bl false)
theorem de_or (ha : PE X a (eG G fa W)) (hb : PE X (.BoolOp .Or (b :: es) pos) (eG G fb W)) : PE X (.BoolOp .Or (a :: b :: es) pos) (eG G (eOt fa fb) W) := by
  refine PE.imp (pe_or ha hb) fun σ H Q h => ?_
  refine eG_toB h fun k H1 h1 => ?_
  cases k with
  | true =>
    obtain ⟨F, ef, _, q⟩ := eGC_eC h1.c
    exact q _ F H1 (Grow.refl ef) (.bl true)
  | false => exact h1
theorem de_not (ha : PE X a (eG G fa W)) : PE X (.UnaryOp .Not a pos) (eG G (eNo fa) W) := by
  refine PE.imp (pe_not ha) fun σ H Q h => ?_
  refine eG_toB h fun k H1 h1 => ?_
  obtain ⟨F, ef, _, q⟩ := eGC_eC h1.c
  exact q _ F H1 (Grow.refl ef) (.bl _)
theorem de_ifExp {tc : EM Bool} (hc : PT X c (tG G tc W)) (ha : PE X a (eG G fa W)) (hb : PE X b (eG G fb W)) : PE X (.IfExp c a b pos) (eG G (eIf tc fa fb) W) := by
  refine PE.imp (pe_ifExp hc ha hb) fun σ H Q h => ?_
  refine tGE_bnd up_true h.c fun k H1 h1 => ?_
  cases k with
  | true => exact h1.e
  | false => exact h1.e
end
end DL
end

section
set_option Elab.async false
set_option linter.all false
set_option autoImplicit false
set_option maxRecDepth 100000
set_option maxHeartbeats 4000000
/-! DL2: operations on data. -/
namespace DL
open PySem L2

/-! ### data as the library's own -/
mutual
def toPy : D → Option PyData
  | .non => some .none
  | .bl b => some (.bool b)
  | .int i => some (.int i)
  | .str x => some (.str x)
  | .tup xs => (toPyL xs).map .tuple
  | .lst xs => (toPyL xs).map .list
  | .dct _ => none
  | .obj _ _ => none
  | .scr _ => none
def toPyL : List D → Option (List PyData)
  | [] => some []
  | x :: xs => (toPy x).bind fun a => (toPyL xs).map fun as => a :: as
end
section
variable {G : Gm} {H : Hp}
mutual
theorem Rep.dp : ∀ {v : V} {d : D} {a : PyData}, Rep G H v d → toPy d = some a → Dp G.K H v a
  | _, _, a, .non, e => by
    rw [toPy] at e
    cases e
    exact .non
  | _, _, a, .bl b, e => by
    rw [toPy] at e
    cases e
    exact .bl b
  | _, _, a, .int b, e => by
    rw [toPy] at e
    cases e
    exact .int b
  | _, _, a, .str b, e => by
    rw [toPy] at e
    cases e
    exact .str b
  | _, _, a, .tup h r, e => by
    rw [toPy, Option.map_eq_some_iff] at e
    obtain ⟨as, e1, e2⟩ := e
    subst e2
    exact .tup h (RepL.dp r e1)
  | _, _, a, .lst h r, e => by
    rw [toPy, Option.map_eq_some_iff] at e
    obtain ⟨as, e1, e2⟩ := e
    subst e2
    exact .lst (sq_of h) (RepL.dp r e1)
  | _, _, a, .scr h r, e => by
    rw [toPy] at e
    cases e
  | _, _, a, .dK h r, e => by
    rw [toPy] at e
    cases e
  | _, _, a, .ins h r, e => by
    rw [toPy] at e
    cases e
theorem RepL.dp : ∀ {v : List V} {d : List D} {a : List PyData}, RepL G H v d → toPyL d = some a → DpAll G.K H v a
  | _, _, a, .nil, e => by
    rw [toPyL] at e
    cases e
    exact .nil
  | _, _, a, .cons h r, e => by
    rw [toPyL, Option.bind_eq_some_iff] at e
    obtain ⟨x, e1, e2⟩ := e
    rw [Option.map_eq_some_iff] at e2
    obtain ⟨xs, e3, e4⟩ := e2
    subst e4
    exact .cons (Rep.dp h e1) (RepL.dp r e3)
end
end
def eqB (d e : D) : Option Bool := (toPy d).bind fun a => (toPy e).bind fun b => if (SeqAt.shaped a && SeqAt.shaped b) = true then some (PyData.eqv a b) else none
def eqD (d e : D) : Option D := (eqB d e).map .bl
def neD (d e : D) : Option D := (eqB d e).map fun b => .bl (!b)
theorem eqB_some {d e : D} {b : Bool} (h : eqB d e = some b) : ∃ x y, toPy d = some x ∧ toPy e = some y ∧ SeqAt.shaped x = true ∧ SeqAt.shaped y = true ∧ PyData.eqv x y = b := by
  unfold eqB at h
  rw [Option.bind_eq_some_iff] at h
  obtain ⟨x, h1, h⟩ := h
  rw [Option.bind_eq_some_iff] at h
  obtain ⟨y, h2, h⟩ := h
  split at h
  · rename_i hs
    rw [Bool.and_eq_true] at hs
    exact ⟨x, y, h1, h2, hs.1, hs.2, Option.some.inj h⟩
  · cases h
section
variable {G : Gm}
theorem od_eq : OpD G (rEqD G.K) eqD := by
  intro F H x y d e z Q ef r1 r2 hz q
  unfold eqD at hz
  rw [Option.map_eq_some_iff] at hz
  obtain ⟨b, hb, rfl⟩ := hz
  obtain ⟨p, p', h1, h2, h3, h4, rfl⟩ := eqB_some hb
  exact ⟨p, p', (r1.mono ef).dp h1, (r2.mono ef).dp h2, h3, h4, q _ F H (Grow.refl ef) (.bl _)⟩
theorem od_ne : OpD G (rNeD G.K) neD := by
  intro F H x y d e z Q ef r1 r2 hz q
  unfold neD at hz
  rw [Option.map_eq_some_iff] at hz
  obtain ⟨b, hb, rfl⟩ := hz
  obtain ⟨p, p', h1, h2, h3, h4, rfl⟩ := eqB_some hb
  exact ⟨p, p', (r1.mono ef).dp h1, (r2.mono ef).dp h2, h3, h4, q _ F H (Grow.refl ef) (.bl _)⟩

/-! ### ints -/
def i2 (f : Int → Int → Option D) : D → D → Option D
  | .int i, .int j => f i j
  | _, _ => none
theorem od_i0 {g : Int → Int → V} {f : Int → Int → D} (h : ∀ i j F, Rep G F (g i j) (f i j)) : OpD G (rI0 g) (i2 fun i j => some (f i j)) := by
  intro F H x y d e z Q ef r1 r2 hz q
  cases d with
  | int i =>
    cases e with
    | int j =>
      cases hz
      exact ⟨i, j, rep_int r1, rep_int r2, q _ F H (Grow.refl ef) (h i j F)⟩
    | _ => cases hz
  | _ => cases hz
theorem od_iC {C C' : Int → Int → Prop} [∀ i j, Decidable (C' i j)] {g : Int → Int → V} {f : Int → Int → D} (hC : ∀ i j, C' i j → C i j) (h : ∀ i j F, Rep G F (g i j) (f i j)) : OpD G (rI C g) (i2 fun i j => if C' i j then some (f i j) else none) := by
  intro F H x y d e z Q ef r1 r2 hz q
  cases d with
  | int i =>
    cases e with
    | int j =>
      unfold i2 at hz
      simp only at hz
      split at hz
      · rename_i hc
        cases hz
        exact ⟨i, j, rep_int r1, rep_int r2, hC i j hc, q _ F H (Grow.refl ef) (h i j F)⟩
      · cases hz
    | _ => cases hz
  | _ => cases hz
def ltD : D → D → Option D := i2 fun i j => some (.bl (decide (i < j)))
def leD : D → D → Option D := i2 fun i j => some (.bl (decide (i ≤ j)))
def gtD : D → D → Option D := i2 fun i j => some (.bl (decide (j < i)))
def geD : D → D → Option D := i2 fun i j => some (.bl (decide (j ≤ i)))
def subD : D → D → Option D := i2 fun i j => some (.int (i - j))
def fdivD : D → D → Option D := i2 fun i j => if 0 < j ∧ j.natAbs.log2 < 9000 then some (.int (i / j)) else none
def modD : D → D → Option D := i2 fun i j => if 0 < j then some (.int (i % j)) else none
def powD : D → D → Option D := i2 fun i j => if 0 ≤ j ∧ j ≤ 1000000 ∧ i.natAbs < 18446744073709551616 then some (.int (i ^ j.toNat)) else none
theorem od_lt : OpD G (rI0 fun i j => .bl (decide (i < j))) ltD := od_i0 fun i j _ => .bl _
theorem od_le : OpD G (rI0 fun i j => .bl (decide (i ≤ j))) leD := od_i0 fun i j _ => .bl _
theorem od_gt : OpD G (rI0 fun i j => .bl (decide (j < i))) gtD := od_i0 fun i j _ => .bl _
theorem od_ge : OpD G (rI0 fun i j => .bl (decide (j ≤ i))) geD := od_i0 fun i j _ => .bl _
theorem od_sub : OpD G (rI0 fun i j => .int (i - j)) subD := od_i0 fun i j _ => .int _
theorem od_fdiv : OpD G (rI CDivW fun i j => .int (i / j)) fdivD := od_iC (fun i j h => h) fun i j _ => .int _
theorem od_mod : OpD G (rI (fun _ j => 0 < j) fun i j => .int (i % j)) modD := od_iC (C' := fun _ j => 0 < j) (fun i j h => h) fun i j _ => .int _
theorem od_pow : OpD G (rI CPow fun i j => .int (i ^ j.toNat)) powD := od_iC (C' := fun i j => 0 ≤ j ∧ j ≤ 1000000 ∧ i.natAbs < 18446744073709551616) (fun i j h => ⟨h.1, h.2.1, h.2.2⟩) fun i j _ => .int _
def negD : D → Option D
  | .int i => some (.int (-i))
  | _ => none
theorem ud_neg : UnD G (rU fun i => .int (-i)) negD := by
  intro F H x d z Q ef r1 hz q
  cases d with
  | int i =>
    cases hz
    exact ⟨i, rep_int r1, q _ F H (Grow.refl ef) (.int _)⟩
  | _ => cases hz

/-! ### is -/
def isD : D → D → Option D
  | .bl a, .bl b => some (.bl (decide (a = b)))
  | _, _ => none
def notIsD : D → D → Option D
  | .bl a, .bl b => some (.bl (!decide (a = b)))
  | _, _ => none
theorem od_is : OpD G rIsB isD := by
  intro F H x y d e z Q ef r1 r2 hz q
  cases d with
  | bl i =>
    cases e with
    | bl j =>
      cases hz
      exact ⟨i, j, rep_bl r1, rep_bl r2, q _ F H (Grow.refl ef) (.bl _)⟩
    | _ => cases hz
  | _ => cases hz
theorem od_notIs : OpD G rNotB notIsD := by
  intro F H x y d e z Q ef r1 r2 hz q
  cases d with
  | bl i =>
    cases e with
    | bl j =>
      cases hz
      exact ⟨i, j, rep_bl r1, rep_bl r2, q _ F H (Grow.refl ef) (.bl _)⟩
    | _ => cases hz
  | _ => cases hz

/-! ### + and * -/
def rCatS (K : PySem.W.Frag) : R2 := fun x y H Q => ∃ l b xs zs, x = .ref l ∧ y = .ref b ∧ SqL K H l xs ∧ SqL K H b zs ∧ xs.length + zs.length ≤ sizeLine ∧ ∀ p, H p = none → Q (.ref p) (upd H p (.lst (xs ++ zs)))
theorem op_catS {X : Cx} : OpR X (binaryOp .Add) (rCatS X.K) := by
  intro pins s σ H x y v u Q I rx ry h
  obtain ⟨l, b, xs, zs, rfl, rfl, hl, hb, hz, q⟩ := h
  obtain ⟨i1, v1, ⟨⟨c1, k1, g1, w1⟩, n1, e1, f1, f2, f3⟩, _⟩ := I.list hl
  obtain ⟨i2, v2, ⟨⟨c2, k2, g2, w2⟩, n2, e2, f4, f5, f6⟩, _⟩ := I.list hb
  cases rx
  cases ry
  simp only at f1 f2 f3 f4 f5 f6
  subst f1 f2 f3 f4 f5 f6
  have t1 := v1.length
  have t2 := v2.length
  refine PySem.concat_meets ⟨_, e1, rfl⟩ ⟨_, e2, rfl⟩ PySem.noFill_list_add PySem.seq_list_add PySem.F.slot_list_add PySem.F.entry_list_add (PySem.F.args_list_add_2 _ _)
    (PyProof.Rows.list_addW l b i1.toArray i2.toArray n1 n2 none none w1 w2 (by simp; omega)) ⟨e1, e2, ?_⟩
  rw [show i1.toArray ++ i2.toArray = (i1 ++ i2).toArray by simp]
  exact ⟨.ref _, _, I.lnew (t' := s.toks) (v1.append v2) (by simpa using hz), rfl, q _ I.fresh⟩
def addD : D → D → Option D
  | .int i, .int j => some (.int (i + j))
  | .str a, .str b => if a.length + b.length ≤ 1000000 then some (.str (a ++ b)) else none
  | .lst a, .lst b => if a.length + b.length ≤ 1000000 then some (.lst (a ++ b)) else none
  | .tup a, .tup b => if a.length + b.length ≤ 1000000 then some (.tup (a ++ b)) else none
  | .scr a, .lst b => if a.length + b.length ≤ 1000000 then some (.lst (a ++ b)) else none
  | _, _ => none
def rStrCat : R2 := fun x y H Q => ∃ i j, x = .str i ∧ y = .str j ∧ i.length + j.length ≤ sizeLine ∧ Q (.str (i ++ j)) H
def rAddAll (K : PySem.W.Frag) : R2 := fun x y H Q => rI0 (fun i j => .int (i + j)) x y H Q ∨ rStrCat x y H Q ∨ rCatS K x y H Q ∨ rCatA K x y H Q
theorem op_addAll {X : Cx} : OpR X (binaryOp .Add) (rAddAll X.K) := OpR.or op_add (OpR.or op_add_str (OpR.or op_catS op_catA))
theorem rep_lst {H : Hp} {v : V} {ds : List D} (h : Rep G H v (.lst ds)) : ∃ a xs, v = .ref a ∧ H a = some (.lst xs) ∧ RepL G H xs ds := by
  cases h with
  | lst h1 h2 => exact ⟨_, _, rfl, h1, h2⟩
theorem rep_scr {H : Hp} {v : V} {ds : List D} (h : Rep G H v (.scr ds)) : ∃ a xs, v = .ref a ∧ SqL G.K H a xs ∧ RepL G H xs ds := by
  cases h with
  | scr h1 h2 => exact ⟨_, _, rfl, h1, h2⟩
theorem rep_tup {H : Hp} {v : V} {ds : List D} (h : Rep G H v (.tup ds)) : ∃ a xs, v = .ref a ∧ SqT G.K H a xs ∧ RepL G H xs ds := by
  cases h with
  | tup h1 h2 => exact ⟨_, _, rfl, h1, h2⟩
theorem new_lst {F H : Hp} {p : Addr} {vs : List V} {ds : List D} (ef : Ex F H) (hp : H p = none) (r : RepL G F vs ds) : Rep G (upd F p (.lst vs)) (.ref p) (.lst ds) := .lst upd_same (r.mono (Ex.new (ef.back hp)))
theorem new_tup {F H : Hp} {p : Addr} {vs : List V} {ds : List D} (ef : Ex F H) (hp : H p = none) (r : RepL G F vs ds) : Rep G (upd F p (.tup vs)) (.ref p) (.tup ds) := .tup (st_of upd_same) (r.mono (Ex.new (ef.back hp)))
theorem od_add : OpD G (rAddAll G.K) addD := by
  intro F H x y d e z Q ef r1 r2 hz q
  cases d with
  | int i =>
    cases e with
    | int j =>
      cases hz
      exact .inl ⟨i, j, rep_int r1, rep_int r2, q _ F H (Grow.refl ef) (.int _)⟩
    | _ => cases hz
  | str i =>
    cases e with
    | str j =>
      unfold addD at hz
      simp only at hz
      split at hz
      · rename_i hl
        cases hz
        exact .inr (.inl ⟨i, j, rep_str r1, rep_str r2, le_line hl, q _ F H (Grow.refl ef) (.str _)⟩)
      · cases hz
    | _ => cases hz
  | lst i =>
    cases e with
    | lst j =>
      unfold addD at hz
      simp only at hz
      split at hz
      · rename_i hl
        cases hz
        obtain ⟨a, xs, rfl, h1, s1⟩ := rep_lst r1
        obtain ⟨b, ys, rfl, h2, s2⟩ := rep_lst r2
        refine .inr (.inr (.inl ⟨a, b, xs, ys, rfl, rfl, sq_of (ef _ _ h1), sq_of (ef _ _ h2), le_line (by rw [s1.length, s2.length]; exact hl), fun p hp => ?_⟩))
        exact q _ _ _ (Grow.new ef hp) (new_lst ef hp (s1.append s2))
      · cases hz
    | _ => cases hz
  | tup i =>
    cases e with
    | tup j =>
      unfold addD at hz
      simp only at hz
      split at hz
      · rename_i hl
        cases hz
        obtain ⟨a, xs, rfl, h1, s1⟩ := rep_tup r1
        obtain ⟨b, ys, rfl, h2, s2⟩ := rep_tup r2
        refine .inr (.inr (.inr ⟨a, b, xs, ys, rfl, rfl, ex_t ef h1, ex_t ef h2, le_line (by rw [s1.length, s2.length]; exact hl), fun hx => ?_, fun hx hy => ?_, fun hx hy p hp => ?_⟩))
        · subst hx
          cases s1
          exact q _ F H (Grow.refl ef) (.tup h2 s2)
        · subst hy
          cases s2
          rw [List.append_nil] at q
          exact q _ F H (Grow.refl ef) (.tup h1 s1)
        · exact q _ _ _ (Grow.new ef hp) (new_tup ef hp (s1.append s2))
      · cases hz
    | _ => cases hz
  | scr i =>
    cases e with
    | lst j =>
      unfold addD at hz
      simp only at hz
      split at hz
      · rename_i hl
        cases hz
        obtain ⟨a, xs, rfl, h1, s1⟩ := rep_scr r1
        obtain ⟨b, ys, rfl, h2, s2⟩ := rep_lst r2
        refine .inr (.inr (.inl ⟨a, b, xs, ys, rfl, rfl, ex_l ef h1, sq_of (ef _ _ h2), le_line (by rw [s1.length, s2.length]; exact hl), fun p hp => ?_⟩))
        exact q _ _ _ (Grow.new ef hp) (new_lst ef hp (s1.append s2))
      · cases hz
    | _ => cases hz
  | _ => cases hz
def mulD : D → D → Option D
  | .int i, .int j => if i.natAbs < 18446744073709551616 ∨ j.natAbs < 18446744073709551616 ∨ i.natAbs.log2 + j.natAbs.log2 < 1000000 then some (.int (i * j)) else none
  | .lst a, .int k => if 0 ≤ k ∧ k ≤ 1000 ∧ a.length ≤ 1000 then some (.lst (List.replicate k.toNat a).flatten) else none
  | .tup a, .int k => if 2 ≤ k ∧ k ≤ 1000 ∧ a.length ≤ 1000 ∧ a ≠ [] then some (.tup (List.replicate k.toNat a).flatten) else none
  | _, _ => none
def rMulAll (K : PySem.W.Frag) : R2 := fun x y H Q => rI CMul (fun i j => .int (i * j)) x y H Q ∨ rI CMulW (fun i j => .int (i * j)) x y H Q ∨ rRep x y H Q ∨ rRepT K x y H Q
theorem op_mulAll {X : Cx} : OpR X (binaryOp .Mult) (rMulAll X.K) := OpR.or op_mul (OpR.or op_mulW (OpR.or op_rep op_repT))
theorem repL_rep {H : Hp} {vs : List V} {ds : List D} (r : RepL G H vs ds) : ∀ n : Nat, RepL G H (List.replicate n vs).flatten (List.replicate n ds).flatten
  | 0 => .nil
  | n + 1 => by
    rw [List.replicate_succ, List.replicate_succ, List.flatten_cons, List.flatten_cons]
    exact r.append (repL_rep r n)
theorem od_mul : OpD G (rMulAll G.K) mulD := by
  intro F H x y d e z Q ef r1 r2 hz q
  cases e with
  | int j =>
    cases d with
    | int i =>
      unfold mulD at hz
      simp only at hz
      split at hz
      · rename_i hc
        cases hz
        have e1 := rep_int r1
        have e2 := rep_int r2
        have qq := q _ F H (Grow.refl ef) (.int (i * j))
        rcases hc with h | h | h
        · exact .inl ⟨i, j, e1, e2, .inl ⟨by omega, by omega⟩, qq⟩
        · exact .inl ⟨i, j, e1, e2, .inr ⟨by omega, by omega⟩, qq⟩
        · exact .inr (.inl ⟨i, j, e1, e2, h, qq⟩)
      · cases hz
    | lst i =>
      unfold mulD at hz
      simp only at hz
      split at hz
      · rename_i hc
        cases hz
        obtain ⟨a, xs, rfl, h1, s1⟩ := rep_lst r1
        have hl := s1.length
        have hm : xs.length * j.toNat ≤ 1000 * 1000 := Nat.mul_le_mul (by omega) (by omega)
        refine .inr (.inr (.inl ⟨a, j, xs, rfl, rep_int r2, ef _ _ h1, by omega, by omega, le_line hm, fun p hp => ?_⟩))
        exact q _ _ _ (Grow.new ef hp) (new_lst ef hp (repL_rep s1 _))
      · cases hz
    | tup i =>
      unfold mulD at hz
      simp only at hz
      split at hz
      · rename_i hc
        cases hz
        obtain ⟨a, xs, rfl, h1, s1⟩ := rep_tup r1
        have hl := s1.length
        refine .inr (.inr (.inr ⟨a, j, xs, rfl, rep_int r2, ex_t ef h1, ?_, hc.1, hc.2.1, by omega, fun p hp => ?_⟩))
        · intro z
          subst z
          cases s1
          exact hc.2.2.2 rfl
        · exact q _ _ _ (Grow.new ef hp) (new_tup ef hp (repL_rep s1 _))
      · cases hz
    | _ => cases hz
  | _ => cases d <;> cases hz
end

/-! ### items, slices -/
def idxD : D → D → Option D
  | .lst xs, .int i => atI xs i
  | .tup xs, .int i => atI xs i
  | .scr xs, .int i => atI xs i
  | .str x, .int i => if x.length ≤ 1000000 then (atI x.cps.toList i).map fun c => .str ⟨#[c]⟩ else none
  | _, _ => none
def rIxAll (K : PySem.W.Frag) : R2 := fun x y H Q => rIxL K x y H Q ∨ rIxT K x y H Q ∨ rIxS x y H Q
section
variable {G : Gm}
theorem ix_all {X : Cx} : IxR X (rIxAll X.K) := L2.IxR.or ix_list (L2.IxR.or ix_tup ix_str)
theorem atI_rep {H : Hp} {vs : List V} {ds : List D} (r : RepL G H vs ds) {i : Int} {d : D} (h : atI ds i = some d) : ∃ v, atI vs i = some v ∧ Rep G H v d := by
  unfold atI at h ⊢
  rw [Option.bind_eq_some_iff] at h
  obtain ⟨j, h1, h2⟩ := h
  obtain ⟨v, h3, h4⟩ := r.get h2
  exact ⟨v, by rw [r.length, h1]; exact h3, h4⟩
theorem od_ix : OpD G (rIxAll G.K) idxD := by
  intro F H x y d e z Q ef r1 r2 hz q
  cases e with
  | int i =>
    have e2 := rep_int r2
    cases d with
    | lst xs =>
      obtain ⟨a, vs, rfl, h1, s1⟩ := rep_lst r1
      obtain ⟨v, h3, h4⟩ := atI_rep s1 hz
      exact .inl ⟨a, vs, i, v, rfl, e2, sq_of (ef _ _ h1), h3, q v F H (Grow.refl ef) h4⟩
    | scr xs =>
      obtain ⟨a, vs, rfl, h1, s1⟩ := rep_scr r1
      obtain ⟨v, h3, h4⟩ := atI_rep s1 hz
      exact .inl ⟨a, vs, i, v, rfl, e2, ex_l ef h1, h3, q v F H (Grow.refl ef) h4⟩
    | tup xs =>
      obtain ⟨a, vs, rfl, h1, s1⟩ := rep_tup r1
      obtain ⟨v, h3, h4⟩ := atI_rep s1 hz
      exact .inr (.inl ⟨a, vs, i, v, rfl, e2, ex_t ef h1, h3, q v F H (Grow.refl ef) h4⟩)
    | str x =>
      unfold idxD at hz
      simp only at hz
      split at hz
      · rename_i hl
        rw [Option.map_eq_some_iff] at hz
        obtain ⟨c, hc, rfl⟩ := hz
        exact .inr (.inr ⟨x, i, c, rep_str r1, e2, le_line hl, hc, q _ F H (Grow.refl ef) (.str _)⟩)
      · cases hz
    | _ => cases hz
  | _ => cases d <;> cases hz
theorem de_ix {G : Gx} {X : Cx} {W : WX} {a b : Expr} {fa fb : EM D} {pos : Pos} (ha : PE X a (eG G fa W)) (hb : PE X b (eG G fb W)) (hs : PlainIx b := by exact fun _ _ => rfl) (hK : G.K = X.K := by rfl) : PE X (.Subscript a b pos) (eG G (eOp idxD fa fb) W) :=
  PE.imp (pe_ix (r := rIxAll X.K) ix_all ha hb hs) fun _ _ _ h => eG_op (by rw [← hK]; exact od_ix) h
end
/-- the parts of a slice -/
def oNone : EM (Option Int) := fun env => .ok (none, env)
def oSome (a : EM D) : EM (Option Int) := bnd a fun d => ofO (match d with | .int i => some (some i) | _ => none)
def cutD (xs : List D) (lo hi : Option Int) : List D := (xs.drop (HT.sIx xs.length 0 lo)).take (HT.sIx xs.length xs.length hi - HT.sIx xs.length 0 lo)
def sliceD (d : D) (lo hi : Option Int) : Option D := match d with
  | .lst xs => some (.lst (cutD xs lo hi))
  | .scr xs => some (.lst (cutD xs lo hi))
  | .tup xs => some (.tup (cutD xs lo hi))
  | _ => none
def eSl (a : EM D) (lo hi : EM (Option Int)) : EM D := bnd a fun d => bnd lo fun l => bnd hi fun h => ofO (sliceD d l h)
def OPost (G : Gx) (B F0 F : Hp) (σ : L2.St) (W : WX) (Q : Option Int → Hp → Prop) : Res (Option Int × DEnv) → Prop
  | .ok (o, env') => ∀ F' H', RepS G B F0 F' H' σ env' → Ex F F' → Q o H'
  | .er c fs env' => ∀ dx F' H' fvs, RepS G B F0 F' H' σ env' → Ex F F' → F' dx = some (.xd fvs) → RepF G F' fvs fs → W (.ref (G.cl c)) (some dx) σ H'
  | .bad => False
def oG (G : Gx) (f : EM (Option Int)) (W : WX) : TO := fun σ H Q => ∃ B F0 F env, RepS G B F0 F H σ env ∧ OPost G B F0 F σ W Q (f env)
section
variable {G : Gx} {X : Cx} {W : WX} {a : Expr} {fa : EM D} {pos p2 : Pos}
theorem PO.imp {e : Option Expr} {t t' : TO} (h : PO X e t) (k : ∀ σ H Q, t' σ H Q → t σ H Q) : PO X e t' := ⟨fun pins s σ H Q I q => h.run pins s σ H Q I (k σ H Q q)⟩
theorem do_none : PO X none (oG G oNone W) := PO.imp po_none fun σ H Q ⟨B, F0, F, env, rs, p⟩ => p F H rs (Ex.refl F)
theorem do_some (h : PE X a (eG G fa W)) : PO X (some a) (oG G (oSome fa) W) := by
  refine PO.imp (po_some h) fun σ H Q ⟨B, F0, F, env, rs, p⟩ => ⟨B, F0, F, env, rs, ?_⟩
  unfold oSome bnd at p
  cases hf : fa env with
  | ok x =>
    rw [hf] at p
    intro v F' H' rs' e rp
    obtain ⟨d, env'⟩ := x
    cases d with
    | int i => exact ⟨i, rep_int rp, p F' H' rs' e⟩
    | _ => exact p.elim
  | er c fs e => rw [hf] at p; exact p
  | bad => rw [hf] at p; exact p
theorem eGO_bnd {C : Hp → Prop} (up : Up C) {σ : L2.St} {H : Hp} {Q : VK} {fo : EM (Option Int)} {k : Option Int → EM D} {R : Option Int → Hp → Prop} (h : eGC G C (bnd fo k) W σ H Q) (kk : ∀ o H', eGC G C (k o) W σ H' Q → R o H') : oG G fo W σ H R := by
  obtain ⟨B, F0, F, env, rs, hC, p⟩ := h
  refine ⟨B, F0, F, env, rs, ?_⟩
  unfold bnd at p
  cases hf : fo env with
  | ok x =>
    rw [hf] at p
    intro F' H' rs' e
    exact kk x.1 H' ⟨B, F0, F', x.2, rs', up _ _ e hC, EPost.mono e p⟩
  | er c fs e => rw [hf] at p; exact p
  | bad => rw [hf] at p; exact p
theorem cut_rep {H : Hp} {vs : List V} {ds : List D} (r : RepL G H vs ds) (lo hi : Option Int) : RepL G H (cutV vs lo hi) (cutD ds lo hi) := by
  unfold cutV cutD
  rw [r.length]
  exact (r.drop _).take _
def rSlAll (K : PySem.W.Frag) : V → Option Int → Option Int → Hp → VK → Prop := fun x lo hi H Q => rSlL K x lo hi H Q ∨ rSlA K x lo hi H Q
theorem de_slice {lo hi : Option Expr} {fl fh : EM (Option Int)} (ha : PE X a (eG G fa W)) (hl : PO X lo (oG G fl W)) (hh : PO X hi (oG G fh W)) (hK : G.K = X.K := by rfl) : PE X (.Subscript a (.Slice lo hi none p2) pos) (eG G (eSl fa fl fh) W) := by
  refine PE.imp (pe_slice (r := rSlAll X.K) (SlR.or sl_list sl_tupA) ha hl hh) fun σ H Q h => ?_
  refine eGC_bnd up_true h.c fun v d H1 h1 => eGO_bnd (up_true.and up_rep) h1 fun l H2 h2 => eGO_bnd (up_true.and up_rep) h2 fun u H3 h3 => ?_
  obtain ⟨F, z, hz, ef, ⟨_, r1⟩, q⟩ := eGC_ofO h3
  cases d with
  | lst xs =>
    cases hz
    obtain ⟨a, vs, rfl, e1, s1⟩ := rep_lst r1
    exact .inl ⟨a, vs, rfl, sq_of (ef _ _ e1), fun p hp => q _ _ _ (Grow.new ef hp) (new_lst ef hp (cut_rep s1 l u))⟩
  | scr xs =>
    cases hz
    obtain ⟨a, vs, rfl, e1, s1⟩ := rep_scr r1
    refine .inl ⟨a, vs, rfl, ?_, fun p hp => q _ _ _ (Grow.new ef hp) (new_lst ef hp (cut_rep s1 l u))⟩
    rw [← hK]
    exact ex_l ef e1
  | tup xs =>
    cases hz
    obtain ⟨a, vs, rfl, e1, s1⟩ := rep_tup r1
    refine .inr ⟨a, vs, rfl, ?_, fun hw => ?_, fun hw p hp => q _ _ _ (Grow.new ef hp) (new_tup ef hp (cut_rep s1 l u))⟩
    · rw [← hK]
      exact ex_t ef e1
    · have e : cutD xs l u = xs := by
        unfold cutD
        rw [← s1.length, hw.1, hw.2]
        simp [s1.length]
      rw [e] at q
      exact q _ F H3 (Grow.refl ef) r1
  | _ => cases hz
end

/-! ### built-in functions -/
def lenD : List D → Option D
  | [.lst xs] => some (.int xs.length)
  | [.tup xs] => some (.int xs.length)
  | [.scr xs] => some (.int xs.length)
  | [.str x] => if x.length ≤ 1000000 then some (.int x.length) else none
  | _ => none
def absD : List D → Option D
  | [.int i] => some (.int (if i < 0 then -i else i))
  | _ => none
def maxD : List D → Option D
  | [.int i, .int j] => some (.int (if j > i then j else i))
  | _ => none
def minD : List D → Option D
  | [.int i, .int j] => some (.int (if j < i then j else i))
  | _ => none
def toIntD : List D → Option D
  | [.int i] => some (.int i)
  | [.bl k] => some (.int (if k then 1 else 0))
  | _ => none
def divmodD : List D → Option D
  | [.int i, .int j] => if 0 < j ∧ j.natAbs.log2 < 9000 then some (.tup [.int (i / j), .int (i % j)]) else none
  | _ => none
def tupleD : List D → Option D
  | [.lst xs] => some (.tup xs)
  | [.tup xs] => some (.tup xs)
  | _ => none
def listD : List D → Option D
  | [.lst xs] => some (.lst xs)
  | [.tup xs] => some (.lst xs)
  | [.scr xs] => some (.lst xs)
  | _ => none
def asB : D → Option Bool
  | .bl b => some b
  | _ => none
def bools : List D → Option (List Bool)
  | [] => some []
  | .bl b :: r => (bools r).map (b :: ·)
  | _ => none
def allD : List D → Option D
  | [.lst xs] => (bools xs).map fun bs => .bl (bs.all id)
  | _ => none
def anyD : List D → Option D
  | [.lst xs] => (bools xs).map fun bs => .bl (bs.any id)
  | _ => none
section
variable {G : Gm}
theorem repL1 {H : Hp} {vs : List V} {d : D} (h : RepL G H vs [d]) : ∃ v, vs = [v] ∧ Rep G H v d := by
  cases h with
  | cons a b =>
    cases b
    exact ⟨_, rfl, a⟩
theorem repL2 {H : Hp} {vs : List V} {d e : D} (h : RepL G H vs [d, e]) : ∃ v u, vs = [v, u] ∧ Rep G H v d ∧ Rep G H u e := by
  cases h with
  | cons a b =>
    obtain ⟨u, rfl, c⟩ := repL1 b
    exact ⟨_, _, rfl, a, c⟩
theorem bools_rep : ∀ {ds : List D} {bs : List Bool} {F : Hp} {vs : List V}, bools ds = some bs → RepL G F vs ds → vs = bs.map V.bl
  | [], bs, F, vs, h, r => by
    cases h
    cases r
    rfl
  | d :: ds, bs, F, vs, h, r => by
    cases r with
    | cons a b =>
      cases d with
      | bl k =>
        unfold bools at h
        rw [Option.map_eq_some_iff] at h
        obtain ⟨bs', h1, rfl⟩ := h
        rw [rep_bl a, bools_rep h1 b]
        rfl
      | _ => cases h
def rLenAll (K : PySem.W.Frag) : List V → Hp → VK → Prop := fun xs H Q => ∃ x n, xs = [x] ∧ LenV K x H n ∧ Q (.int n) H
theorem ad_len : AppD G (rLenAll G.K) lenD := by
  intro F H xs ds z Q ef r hz q
  unfold lenD at hz
  split at hz
  · cases hz
    obtain ⟨v, rfl, h⟩ := repL1 r
    obtain ⟨a, vs, rfl, h1, s1⟩ := rep_lst h
    refine ⟨_, _, rfl, .inl ⟨vs, sq_of (ef _ _ h1), rfl⟩, ?_⟩
    rw [s1.length]
    exact q _ F H (Grow.refl ef) (.int _)
  · cases hz
    obtain ⟨v, rfl, h⟩ := repL1 r
    obtain ⟨a, vs, rfl, h1, s1⟩ := rep_tup h
    refine ⟨_, _, rfl, .inr ⟨vs, ex_t ef h1, rfl⟩, ?_⟩
    rw [s1.length]
    exact q _ F H (Grow.refl ef) (.int _)
  · cases hz
    obtain ⟨v, rfl, h⟩ := repL1 r
    obtain ⟨a, vs, rfl, h1, s1⟩ := rep_scr h
    refine ⟨_, _, rfl, .inl ⟨vs, ex_l ef h1, rfl⟩, ?_⟩
    rw [s1.length]
    exact q _ F H (Grow.refl ef) (.int _)
  · split at hz
    · rename_i hl
      cases hz
      obtain ⟨v, rfl, h⟩ := repL1 r
      have e := rep_str h
      subst e
      exact ⟨_, _, rfl, ⟨le_line hl, rfl⟩, q _ F H (Grow.refl ef) (.int _)⟩
    · cases hz
  · cases hz
theorem ad_abs : AppD G (fun xs H Q => ∃ i, xs = [.int i] ∧ Q (.int (if i < 0 then -i else i)) H) absD := by
  intro F H xs ds z Q ef r hz q
  unfold absD at hz
  split at hz
  · cases hz
    obtain ⟨v, rfl, h⟩ := repL1 r
    have e := rep_int h
    subst e
    exact ⟨_, rfl, q _ F H (Grow.refl ef) (.int _)⟩
  · cases hz
theorem ad_max : AppD G (fun xs H Q => ∃ i j, xs = [.int i, .int j] ∧ Q (.int (if j > i then j else i)) H) maxD := by
  intro F H xs ds z Q ef r hz q
  unfold maxD at hz
  split at hz
  · cases hz
    obtain ⟨v, u, rfl, h, h'⟩ := repL2 r
    have e := rep_int h
    have e' := rep_int h'
    subst e e'
    exact ⟨_, _, rfl, q _ F H (Grow.refl ef) (.int _)⟩
  · cases hz
theorem ad_min : AppD G (fun xs H Q => ∃ i j, xs = [.int i, .int j] ∧ Q (.int (if j < i then j else i)) H) minD := by
  intro F H xs ds z Q ef r hz q
  unfold minD at hz
  split at hz
  · cases hz
    obtain ⟨v, u, rfl, h, h'⟩ := repL2 r
    have e := rep_int h
    have e' := rep_int h'
    subst e e'
    exact ⟨_, _, rfl, q _ F H (Grow.refl ef) (.int _)⟩
  · cases hz
theorem ad_int : AppD G (fun xs H Q => (∃ i, xs = [.int i] ∧ Q (.int i) H) ∨ ∃ k, xs = [.bl k] ∧ Q (.int (if k then 1 else 0)) H) toIntD := by
  intro F H xs ds z Q ef r hz q
  unfold toIntD at hz
  split at hz
  · cases hz
    obtain ⟨v, rfl, h⟩ := repL1 r
    have e := rep_int h
    subst e
    exact .inl ⟨_, rfl, q _ F H (Grow.refl ef) (.int _)⟩
  · cases hz
    obtain ⟨v, rfl, h⟩ := repL1 r
    have e := rep_bl h
    subst e
    exact .inr ⟨_, rfl, q _ F H (Grow.refl ef) (.int _)⟩
  · cases hz
theorem divP {i j : Int} (h : 0 < j ∧ j.natAbs.log2 < 9000) : CDivP i j := by
  refine ⟨h.1, ?_⟩
  unfold Builtin.divisionGoesByPylong
  have h0 : (j == 0) = false := by simpa using Int.ne_of_gt h.1
  have h1 : ¬ (300 < j.natAbs.log2 / 30 + 1) := by omega
  simp [h0, h1]
theorem ad_divmod : AppD G (fun xs H Q => ∃ i j, xs = [.int i, .int j] ∧ CDivP i j ∧ ∀ p, H p = none → Q (.ref p) (upd H p (.tup [.int (i / j), .int (i % j)]))) divmodD := by
  intro F H xs ds z Q ef r hz q
  unfold divmodD at hz
  split at hz
  · split at hz
    · rename_i hc
      cases hz
      obtain ⟨v, u, rfl, h, h'⟩ := repL2 r
      have e := rep_int h
      have e' := rep_int h'
      subst e e'
      exact ⟨_, _, rfl, divP hc, fun p hp => q _ _ _ (Grow.new ef hp) (new_tup ef hp (.cons (.int _) (.cons (.int _) .nil)))⟩
    · cases hz
  · cases hz
theorem ad_tuple : AppD G (fun xs H Q => ∃ p ys, xs = [.ref p] ∧ ((SqL G.K H p ys ∧ ∀ l, H l = none → Q (.ref l) (upd H l (.tup ys))) ∨ (SqT G.K H p ys ∧ Q (.ref p) H))) tupleD := by
  intro F H xs ds z Q ef r hz q
  unfold tupleD at hz
  split at hz
  · cases hz
    obtain ⟨v, rfl, h⟩ := repL1 r
    obtain ⟨a, vs, rfl, h1, s1⟩ := rep_lst h
    exact ⟨_, _, rfl, .inl ⟨sq_of (ef _ _ h1), fun p hp => q _ _ _ (Grow.new ef hp) (new_tup ef hp s1)⟩⟩
  · cases hz
    obtain ⟨v, rfl, h⟩ := repL1 r
    obtain ⟨a, vs, rfl, h1, s1⟩ := rep_tup h
    exact ⟨_, _, rfl, .inr ⟨ex_t ef h1, q _ F H (Grow.refl ef) h⟩⟩
  · cases hz
theorem ad_list : AppD G (fun xs H Q => ∃ p ys, xs = [.ref p] ∧ (SqL G.K H p ys ∨ SqT G.K H p ys) ∧ ∀ l, H l = none → Q (.ref l) (upd H l (.lst ys))) listD := by
  intro F H xs ds z Q ef r hz q
  unfold listD at hz
  split at hz
  · cases hz
    obtain ⟨v, rfl, h⟩ := repL1 r
    obtain ⟨a, vs, rfl, h1, s1⟩ := rep_lst h
    exact ⟨_, _, rfl, .inl (sq_of (ef _ _ h1)), fun p hp => q _ _ _ (Grow.new ef hp) (new_lst ef hp s1)⟩
  · cases hz
    obtain ⟨v, rfl, h⟩ := repL1 r
    obtain ⟨a, vs, rfl, h1, s1⟩ := rep_tup h
    exact ⟨_, _, rfl, .inr (ex_t ef h1), fun p hp => q _ _ _ (Grow.new ef hp) (new_lst ef hp s1)⟩
  · cases hz
    obtain ⟨v, rfl, h⟩ := repL1 r
    obtain ⟨a, vs, rfl, h1, s1⟩ := rep_scr h
    exact ⟨_, _, rfl, .inl (ex_l ef h1), fun p hp => q _ _ _ (Grow.new ef hp) (new_lst ef hp s1)⟩
  · cases hz
theorem ad_all : AppD G (rAll G.K) allD := by
  intro F H xs ds z Q ef r hz q
  unfold allD at hz
  split at hz
  · rw [Option.map_eq_some_iff] at hz
    obtain ⟨bs, h1, rfl⟩ := hz
    obtain ⟨v, rfl, h⟩ := repL1 r
    obtain ⟨a, vs, rfl, h2, s1⟩ := rep_lst h
    have e := bools_rep h1 s1
    subst e
    exact ⟨a, bs, rfl, sq_of (ef _ _ h2), q _ F H (Grow.refl ef) (.bl _)⟩
  · cases hz
theorem ad_any : AppD G (rAny G.K) anyD := by
  intro F H xs ds z Q ef r hz q
  unfold anyD at hz
  split at hz
  · rw [Option.map_eq_some_iff] at hz
    obtain ⟨bs, h1, rfl⟩ := hz
    obtain ⟨v, rfl, h⟩ := repL1 r
    obtain ⟨a, vs, rfl, h2, s1⟩ := rep_lst h
    have e := bools_rep h1 s1
    subst e
    exact ⟨a, bs, rfl, sq_of (ef _ _ h2), q _ F H (Grow.refl ef) (.bl _)⟩
  · cases hz
end
end DL
end

section
set_option Elab.async false
set_option linter.all false
set_option autoImplicit false
set_option maxRecDepth 100000
set_option maxHeartbeats 4000000
/-! DL3: stores, statements. -/
namespace DL
open PySem L2

/-! ### how RepS moves -/
section
variable {G : Gx} {B F0 F H : Hp} {σ : L2.St} {env : DEnv}
theorem RepS.setv (r : RepS G B F0 F H σ env) {v : V} {d : D} (i : Nat) (h : Rep G F v d) : RepS G B F0 F H (σ.set i (some v)) (env.set i (some (.val d))) where
  bh := r.bh
  f0 := r.f0
  fh := r.fh
  fr := r.fr
  len := by simpa using r.len
  val := fun j e q => by
    rw [List.getElem?_set] at q ⊢
    by_cases hj : i = j
    · subst hj
      rw [if_pos rfl] at q ⊢
      split at q
      · cases q
        rename_i hl
        rw [if_pos (by rw [← r.len]; exact hl)]
        exact ⟨v, rfl, h⟩
      · cases q
    · rw [if_neg hj] at q ⊢
      exact r.val j e q
  own := fun j e q => by
    rw [List.getElem?_set] at q ⊢
    by_cases hj : i = j
    · subst hj
      rw [if_pos rfl] at q
      split at q <;> cases q
    · rw [if_neg hj] at q ⊢
      exact r.own j e q
  sep := fun j k d' e p hjk q1 q2 => by
    rw [List.getElem?_set] at q1 q2
    by_cases hj : i = j
    · subst hj
      rw [if_pos rfl] at q1
      split at q1 <;> cases q1
    · by_cases hk : i = k
      · subst hk
        rw [if_pos rfl] at q2
        split at q2 <;> cases q2
      · rw [if_neg hj] at q1
        rw [if_neg hk] at q2
        rw [List.getElem?_set, List.getElem?_set, if_neg hj, if_neg hk]
        exact r.sep j k d' e p hjk q1 q2
  exc := fun j c fs q => by
    rw [List.getElem?_set] at q ⊢
    by_cases hj : i = j
    · subst hj
      rw [if_pos rfl] at q
      split at q <;> cases q
    · rw [if_neg hj] at q ⊢
      exact r.exc j c fs q
  pin := fun j p' d' hb q => by
    rw [List.getElem?_set] at q ⊢
    by_cases hj : i = j
    · subst hj
      rw [if_pos rfl] at q
      split at q <;> cases q
    · rw [if_neg hj] at q ⊢
      exact r.pin j p' d' hb q
/-- no slot owns p -/
def Apart (σ : L2.St) (env : DEnv) (p : Addr) : Prop := ∀ (j : Nat) (e : D), env[j]? = some (some (.own e)) → σ[j]? ≠ some (some (.ref p))
theorem RepS.seto (r : RepS G B F0 F H σ env) {p : Addr} {d : D} (i : Nat) (h : RepO G F H p d) (hF : F p = none) (hB : B p = none) (ap : Apart σ env p) (hpin : ∀ q, G.bp = some (i, q) → q = p) : RepS G B F0 F H (σ.set i (some (.ref p))) (env.set i (some (.own d))) where
  bh := r.bh
  f0 := r.f0
  fh := r.fh
  fr := r.fr
  len := by simpa using r.len
  val := fun j e q => by
    rw [List.getElem?_set] at q ⊢
    by_cases hj : i = j
    · subst hj
      rw [if_pos rfl] at q
      split at q <;> cases q
    · rw [if_neg hj] at q ⊢
      exact r.val j e q
  own := fun j e q => by
    rw [List.getElem?_set] at q ⊢
    by_cases hj : i = j
    · subst hj
      rw [if_pos rfl] at q ⊢
      split at q
      · cases q
        rename_i hl
        rw [if_pos (by rw [← r.len]; exact hl)]
        exact ⟨p, rfl, h, hF, hB⟩
      · cases q
    · rw [if_neg hj] at q ⊢
      exact r.own j e q
  sep := fun j k d' e p' hjk q1 q2 => by
    rw [List.getElem?_set] at q1 q2
    rw [List.getElem?_set, List.getElem?_set]
    by_cases hj : i = j
    · subst hj
      rw [if_neg hjk] at q2 ⊢
      intro s1
      rw [if_pos rfl] at s1
      split at s1
      · cases s1
        exact ap k e q2
      · cases s1
    · rw [if_neg hj] at q1 ⊢
      by_cases hk : i = k
      · subst hk
        rw [if_pos rfl]
        intro s1 s2
        split at s2
        · cases s2
          exact ap j d' q1 s1
        · cases s2
      · rw [if_neg hk] at q2 ⊢
        exact r.sep j k d' e p' hjk q1 q2
  exc := fun j c fs q => by
    rw [List.getElem?_set] at q ⊢
    by_cases hj : i = j
    · subst hj
      rw [if_pos rfl] at q
      split at q <;> cases q
    · rw [if_neg hj] at q ⊢
      exact r.exc j c fs q
  pin := fun j p' d' hb q => by
    rw [List.getElem?_set] at q ⊢
    by_cases hj : i = j
    · subst hj
      rw [if_pos rfl] at q ⊢
      split at q
      · rename_i hl
        rw [if_pos (by rw [← r.len]; exact hl), hpin p' hb]
      · cases q
    · rw [if_neg hj] at q ⊢
      exact r.pin j p' d' hb q
/-- a slot forgotten -/
theorem RepS.forget (r : RepS G B F0 F H σ env) (o : Option V) (i : Nat) : RepS G B F0 F H (σ.set i o) (env.set i none) where
  bh := r.bh
  f0 := r.f0
  fh := r.fh
  fr := r.fr
  len := by simpa using r.len
  val := fun j e q => by
    rw [List.getElem?_set] at q ⊢
    by_cases hj : i = j
    · subst hj
      rw [if_pos rfl] at q
      split at q <;> cases q
    · rw [if_neg hj] at q ⊢
      exact r.val j e q
  own := fun j e q => by
    rw [List.getElem?_set] at q ⊢
    by_cases hj : i = j
    · subst hj
      rw [if_pos rfl] at q
      split at q <;> cases q
    · rw [if_neg hj] at q ⊢
      exact r.own j e q
  sep := fun j k d' e p hjk q1 q2 => by
    rw [List.getElem?_set] at q1 q2
    by_cases hj : i = j
    · subst hj
      rw [if_pos rfl] at q1
      split at q1 <;> cases q1
    · by_cases hk : i = k
      · subst hk
        rw [if_pos rfl] at q2
        split at q2 <;> cases q2
      · rw [if_neg hj] at q1
        rw [if_neg hk] at q2
        rw [List.getElem?_set, List.getElem?_set, if_neg hj, if_neg hk]
        exact r.sep j k d' e p hjk q1 q2
  exc := fun j c fs q => by
    rw [List.getElem?_set] at q ⊢
    by_cases hj : i = j
    · subst hj
      rw [if_pos rfl] at q
      split at q <;> cases q
    · rw [if_neg hj] at q ⊢
      exact r.exc j c fs q
  pin := fun j p' d' hb q => by
    rw [List.getElem?_set] at q ⊢
    by_cases hj : i = j
    · subst hj
      rw [if_pos rfl] at q
      split at q <;> cases q
    · rw [if_neg hj] at q ⊢
      exact r.pin j p' d' hb q
/-- an object that nothing else holds is frozen -/
theorem RepS.addF (r : RepS G B F0 F H σ env) {p : Addr} {o : HO} (h : H p = some o) (hF : F p = none) (hB : B p = none) (ap : Apart σ env p) : RepS G B F0 (upd F p o) H σ env where
  bh := r.bh
  f0 := r.f0.trans (Ex.new hF)
  fh := fun a u q => by
    by_cases ha : a = p
    · subst ha
      rw [upd_same] at q
      rw [← q]
      exact h
    · rw [upd_ne ha] at q
      exact r.fh a u q
  fr := fun a u q => by
    by_cases ha : a = p
    · subst ha
      exact .inr hB
    · rw [upd_ne ha] at q
      exact r.fr a u q
  len := r.len
  val := fun j e q => by
    obtain ⟨v, h1, h2⟩ := r.val j e q
    exact ⟨v, h1, h2.mono (Ex.new hF)⟩
  own := fun j e q => by
    obtain ⟨p', h1, h2, h3, h4⟩ := r.own j e q
    refine ⟨p', h1, h2.at (Ex.new hF) fun _ z => z, ?_, h4⟩
    rw [upd_ne]
    · exact h3
    · intro z
      subst z
      exact ap j e q h1
  sep := r.sep
  exc := fun j c fs q => by
    obtain ⟨a, dd, fvs, h1, h2, h3, h4⟩ := r.exc j c fs q
    exact ⟨a, dd, fvs, h1, h2, Ex.new hF _ _ h3, h4.mono (Ex.new hF)⟩
  pin := r.pin
/-- slot i gives up its object -/
theorem RepS.frz (r : RepS G B F0 F H σ env) {i : Nat} {d : D} (h : env[i]? = some (some (.own d))) : ∃ v F', σ[i]? = some (some v) ∧ Ex F F' ∧ Rep G F' v d ∧ RepS G B F0 F' H σ (env.set i (some (.val d))) := by
  obtain ⟨p, h1, h2, h3, h4⟩ := r.own i d h
  obtain ⟨o, h5, h6⟩ := h2.freeze h3
  have r1 := r.forget (some (.ref p)) i
  have es : σ.set i (some (V.ref p)) = σ := by
    apply List.ext_getElem?
    intro j
    rw [List.getElem?_set]
    by_cases hj : i = j
    · subst hj
      rw [if_pos rfl, if_pos (List.getElem?_eq_some_iff.mp h1).1, h1]
    · rw [if_neg hj]
  rw [es] at r1
  have ap : Apart σ (env.set i none) p := fun j e q z => by
    rw [List.getElem?_set] at q
    by_cases hj : i = j
    · subst hj
      rw [if_pos rfl] at q
      split at q <;> cases q
    · rw [if_neg hj] at q
      exact r.sep j i e d p (Ne.symm hj) q h z h1
  have r2 := (r1.addF h5 h3 h4 ap).setv i h6
  rw [es, List.set_set] at r2
  exact ⟨_, _, h1, Ex.new h3, h6, r2⟩
theorem RepS.apartNew (r : RepS G B F0 F H σ env) {p : Addr} (h : H p = none) : Apart σ env p := fun j e q z => by
  obtain ⟨p', h1, h2, _⟩ := r.own j e q
  rw [h1] at z
  cases z
  obtain ⟨o, ho⟩ := h2.is
  rw [h] at ho
  cases ho
/-- the frozen part at hand in F0's place, and back -/
theorem RepS.rebase (r : RepS G B F0 F H σ env) {F1 : Hp} (e0 : Ex F0 F1) (e1 : Ex F1 F) : RepS G B F1 F H σ env where
  bh := r.bh
  f0 := e1
  fh := r.fh
  fr := fun a o q => by
    rcases r.fr a o q with ⟨u, h⟩ | h
    · exact .inl ⟨u, e0 _ _ h⟩
    · exact .inr h
  len := r.len
  val := r.val
  own := r.own
  sep := r.sep
  exc := r.exc
  pin := r.pin
theorem RepS.back {F1 H1 : Hp} {σ1 : L2.St} {env1 : DEnv} (r1 : RepS G B F0 F1 H1 σ1 env1) (r : RepS G B F1 F H σ env) : RepS G B F0 F H σ env where
  bh := r.bh
  f0 := r1.f0.trans r.f0
  fh := r.fh
  fr := fun a o q => by
    rcases r.fr a o q with ⟨u, h⟩ | h
    · exact r1.fr a u h
    · exact .inr h
  len := r.len
  val := r.val
  own := r.own
  sep := r.sep
  exc := r.exc
  pin := r.pin
/-- something more is to stay -/
theorem RepS.addB (r : RepS G B F0 F H σ env) {p : Addr} {o : HO} (h : H p = some o) (hF : F p = none) (ap : Apart σ env p) : RepS G (upd B p o) F0 F H σ env where
  bh := fun a u q => by
    by_cases ha : a = p
    · subst ha
      rw [upd_same] at q
      rw [← q]
      exact h
    · rw [upd_ne ha] at q
      exact r.bh a u q
  f0 := r.f0
  fh := r.fh
  fr := fun a u q => by
    rcases r.fr a u q with h | h
    · exact .inl h
    · refine .inr ?_
      rw [upd_ne]
      · exact h
      · intro z
        subst z
        rw [hF] at q
        cases q
  len := r.len
  val := r.val
  own := fun j e q => by
    obtain ⟨p', h1, h2, h3, h4⟩ := r.own j e q
    refine ⟨p', h1, h2, h3, ?_⟩
    rw [upd_ne]
    · exact h4
    · intro z
      subst z
      exact ap j e q h1
  sep := r.sep
  exc := r.exc
  pin := r.pin
theorem RepS.keptF (r : RepS G B F0 F H σ env) {p : Addr} {o : HO} (hB : B p = some o) (h0 : F0 p = none) : F p = none := by
  cases q : F p with
  | none => rfl
  | some u =>
    rcases r.fr p u q with ⟨z, h⟩ | h
    · rw [h0] at h
      cases h
    · rw [hB] at h
      cases h
theorem RepS.keptA (r : RepS G B F0 F H σ env) {p : Addr} {o : HO} (hB : B p = some o) : Apart σ env p := fun j e q z => by
  obtain ⟨p', h1, _, _, h4⟩ := r.own j e q
  rw [h1] at z
  cases z
  rw [hB] at h4
  cases h4
/-- what was to stay changes (F does not know it) -/
theorem RepS.chB {p : Addr} {o o' : HO} (r : RepS G (upd B p o) F0 F H σ env) (hF : F p = none) : RepS G (upd B p o') F0 F (upd H p o') σ env where
  bh := fun a u q => by
    by_cases ha : a = p
    · subst ha
      rw [upd_same] at q ⊢
      exact q
    · rw [upd_ne ha] at q ⊢
      exact r.bh a u (by rw [upd_ne ha]; exact q)
  f0 := r.f0
  fh := r.fh.mut hF
  fr := fun a u q => by
    have ha : a ≠ p := fun z => by
      subst z
      rw [hF] at q
      cases q
    rcases r.fr a u q with h | h
    · exact .inl h
    · refine .inr ?_
      rw [upd_ne ha] at h ⊢
      exact h
  len := r.len
  val := r.val
  own := fun j e q => by
    obtain ⟨p', h1, h2, h3, h4⟩ := r.own j e q
    have hp : p' ≠ p := fun z => by
      subst z
      rw [upd_same] at h4
      cases h4
    refine ⟨p', h1, h2.at (Ex.refl F) fun u z => by rw [upd_ne hp]; exact z, h3, ?_⟩
    rw [upd_ne hp] at h4 ⊢
    exact h4
  sep := r.sep
  exc := r.exc
  pin := r.pin
/-- .. and is let go -/
theorem RepS.dropB {p : Addr} {o : HO} (r : RepS G (upd B p o) F0 F H σ env) (hB : B p = none) : RepS G B F0 F H σ env where
  bh := fun a u q => by
    have ha : a ≠ p := fun z => by
      subst z
      rw [hB] at q
      cases q
    exact r.bh a u (by rw [upd_ne ha]; exact q)
  f0 := r.f0
  fh := r.fh
  fr := fun a u q => by
    rcases r.fr a u q with h | h
    · exact .inl h
    · by_cases ha : a = p
      · subst ha
        exact .inr hB
      · rw [upd_ne ha] at h
        exact .inr h
  len := r.len
  val := r.val
  own := fun j e q => by
    obtain ⟨p', h1, h2, h3, h4⟩ := r.own j e q
    have hp : p' ≠ p := fun z => by
      subst z
      rw [upd_same] at h4
      cases h4
    rw [upd_ne hp] at h4
    exact ⟨p', h1, h2, h3, h4⟩
  sep := r.sep
  exc := r.exc
  pin := r.pin
/-- an owned object changes -/
theorem RepS.own_put (r : RepS G B F0 F H σ env) {i : Nat} {d d' : D} {p : Addr} {o : HO} (h : env[i]? = some (some (.own d))) (hs : σ[i]? = some (some (.ref p))) (hF : F p = none) (hB : B p = none) (hn : RepO G F (upd H p o) p d') :
    RepS G B F0 F (upd H p o) σ (env.set i (some (.own d'))) := by
  have r1 := r.forget (some (.ref p)) i
  have es : σ.set i (some (V.ref p)) = σ := by
    apply List.ext_getElem?
    intro j
    rw [List.getElem?_set]
    by_cases hj : i = j
    · subst hj
      rw [if_pos rfl, if_pos (List.getElem?_eq_some_iff.mp hs).1, hs]
    · rw [if_neg hj]
  rw [es] at r1
  have ap : Apart σ (env.set i none) p := fun j e q z => by
    rw [List.getElem?_set] at q
    by_cases hj : i = j
    · subst hj
      rw [if_pos rfl] at q
      split at q <;> cases q
    · rw [if_neg hj] at q
      exact r.sep j i e d p (Ne.symm hj) q h z hs
  have r2 : RepS G B F0 F (upd H p o) σ (env.set i none) := {
    bh := r1.bh.mut hB
    f0 := r1.f0
    fh := r1.fh.mut hF
    fr := r1.fr
    len := r1.len
    val := r1.val
    own := fun j e q => by
      obtain ⟨p', h1, h2, h3, h4⟩ := r1.own j e q
      have hp : p' ≠ p := fun z => by
        subst z
        exact ap j e q h1
      exact ⟨p', h1, h2.at (Ex.refl F) fun u z => by rw [upd_ne hp]; exact z, h3, h4⟩
    sep := r1.sep
    exc := r1.exc
    pin := r1.pin }
  have r3 := r2.seto i hn hF hB ap fun q hq => by
    have z := r.pin i q d hq h
    rw [hs] at z
    cases z
    rfl
  rw [es, List.set_set] at r3
  exact r3
end

/-! ### expressions that hand a new object of their own -/
def FPost (G : Gx) (B F0 F : Hp) (σ : L2.St) (W : WX) (Q : VK) : Res (D × DEnv) → Prop
  | .ok (d, env') => ∀ p F' H', RepS G B F0 F' H' σ env' → Ex F F' → RepO G F' H' p d → F' p = none → B p = none → Apart σ env' p → Q (.ref p) H'
  | .er c fs env' => ∀ dx F' H' fvs, RepS G B F0 F' H' σ env' → Ex F F' → F' dx = some (.xd fvs) → RepF G F' fvs fs → W (.ref (G.cl c)) (some dx) σ H'
  | .bad => False
def fG (G : Gx) (f : EM D) (W : WX) : TE := fun σ H Q => ∃ B F0 F env, RepS G B F0 F H σ env ∧ FPost G B F0 F σ W Q (f env)
/-- a read that gives the slot's object up -/
def eZ (i : Nat) : EM D := fun env => match env[i]? with
  | some (some (.val d)) => .ok (d, env)
  | some (some (.own d)) => .ok (d, env.set i (some (.val d)))
  | _ => .bad
section
variable {G : Gx} {X : Cx} {W : WX} {a : Expr} {fa : EM D} {pos : Pos} {es : List Expr}
theorem de_frz (h : PE X a (fG G fa W)) : PE X a (eG G fa W) := by
  refine PE.imp h fun σ H Q ⟨B, F0, F, env, rs, p⟩ => ⟨B, F0, F, env, rs, ?_⟩
  cases hf : fa env with
  | ok x =>
    obtain ⟨d, env'⟩ := x
    rw [hf] at p
    intro q F' H' rs' e ro hF hB ap
    obtain ⟨o, h5, h6⟩ := ro.freeze hF
    exact p _ _ _ (rs'.addF h5 hF hB ap) (e.trans (Ex.new hF)) h6
  | er c fs e => rw [hf] at p; exact p
  | bad => rw [hf] at p; exact p
theorem df_lst {fr : EM (List D)} (h : PA X es (aG G fr W)) : PE X (.List es pos) (fG G (eLst fr) W) := by
  refine PE.imp (pe_lst h) fun σ H Q ⟨B, F0, F, env, rs, p⟩ => ⟨B, F0, F, env, rs, ?_⟩
  unfold eLst bnd at p
  cases hf : fr env with
  | ok x =>
    rw [hf] at p
    obtain ⟨ds, env'⟩ := x
    intro vs F' H' rs' e rl
    unfold Res.bind ofO at p
    simp only at p
    split at p
    · rename_i d hd
      split at hd
      · rename_i hl
        cases hd
        refine ⟨by rw [rl.length]; exact le_line hl, fun q hq => ?_⟩
        refine p q F' _ (rs'.grow (Grow.newH rs'.fh hq)) e ⟨vs, upd_same, rl⟩ (rs'.fh.back hq) (rs'.bh.back hq) (rs'.apartNew hq)
      · cases hd
    · exact p.elim
  | er c fs e => rw [hf] at p; exact p
  | bad => rw [hf] at p; exact p
theorem df_dict0 : PE X (.Dict [] [] pos) (fG G (eC (.dct [])) W) := by
  refine PE.imp pe_dnewK fun σ H Q ⟨B, F0, F, env, rs, p⟩ => ?_
  exact fun q hq => p q F _ (rs.grow (Grow.newH rs.fh hq)) (Ex.refl F) ⟨[], upd_same, .nil⟩ (rs.fh.back hq) (rs.bh.back hq) (rs.apartNew hq)
theorem de_varZ {i : Nat} {x : Str} (hN : X.N[i]? = some x := by rfl) (hv : Vis X.env.scope x := by first | exact Or.inl rfl | exact Or.inr (Or.inl rfl) | exact Or.inr (Or.inr rfl)) (hd : (x == ("__debug__" : Str)) = false := by decide)
    (hcd : (x == ("__classdict__" : Str)) = false := by decide) : PE X (.Name x pos) (eG G (eZ i) W) := by
  refine PE.imp (pe_var hN hv hd hcd) fun σ H Q ⟨B, F0, F, env, rs, p⟩ => ?_
  unfold eZ at p
  split at p
  · rename_i d he
    obtain ⟨v, h1, h2⟩ := rs.val i d he
    exact ⟨v, h1, p v F H rs (Ex.refl F) h2⟩
  · rename_i d he
    obtain ⟨v, F', h1, e1, h2, rs'⟩ := rs.frz he
    exact ⟨v, h1, p v F' H rs' e1 h2⟩
  · exact p.elim
/-- reading owned objects for a while: a scalar comes of it, nothing else changes -/
def isScal : D → Bool
  | .non | .bl _ | .int _ | .str _ => true
  | _ => false
def frzC : Option Cell → Option Cell
  | some (.own d) => some (.val d)
  | o => o
def frzAll (env : DEnv) : DEnv := env.map frzC
def eBor (f : EM D) : EM D := fun env => match f (frzAll env) with
  | .ok (d, _) => if isScal d = true then .ok (d, env) else .bad
  | _ => .bad
theorem rep_scal {G : Gm} {F F' : Hp} {v : V} {d : D} (hs : isScal d = true) (h : Rep G F v d) : Rep G F' v d := by
  cases h with
  | non => exact .non
  | bl b => exact .bl b
  | int i => exact .int i
  | str x => exact .str x
  | _ => cases hs
theorem RepO.rep {G : Gm} {F H : Hp} {p : Addr} {d : D} (r : RepO G F H p d) (e : Ex F H) : Rep G H (.ref p) d := by
  cases d with
  | lst ds =>
    obtain ⟨vs, h1, h2⟩ := r
    exact .lst h1 (h2.mono e)
  | dct ds =>
    obtain ⟨vs, h1, h2⟩ := r
    exact .dK h1 (h2.mono e)
  | obj c gs =>
    obtain ⟨dx, vs, h1, h2⟩ := r
    exact .ins h1 (h2.mono e)
  | _ => exact r.elim
theorem RepS.all {B F0 F H : Hp} {σ : L2.St} {env : DEnv} (r : RepS G B F0 F H σ env) : RepS G H H H H σ (frzAll env) where
  bh := Ex.refl H
  f0 := Ex.refl H
  fh := Ex.refl H
  fr := fun a o q => .inl ⟨o, q⟩
  len := by simpa [frzAll] using r.len
  val := fun j d q => by
    unfold frzAll at q
    rw [List.getElem?_map, Option.map_eq_some_iff] at q
    obtain ⟨c, q1, q2⟩ := q
    cases c with
    | none => cases q2
    | some c =>
      cases c with
      | val d' =>
        cases q2
        obtain ⟨v, h1, h2⟩ := r.val j d q1
        exact ⟨v, h1, h2.mono r.fh⟩
      | own d' =>
        cases q2
        obtain ⟨p, h1, h2, _⟩ := r.own j d q1
        exact ⟨_, h1, h2.rep r.fh⟩
      | exc c fs => cases q2
  own := fun j d q => by
    unfold frzAll at q
    rw [List.getElem?_map, Option.map_eq_some_iff] at q
    obtain ⟨c, q1, q2⟩ := q
    cases c with
    | none => cases q2
    | some c => cases c <;> cases q2
  sep := fun j k d e p _ q => by
    unfold frzAll at q
    rw [List.getElem?_map, Option.map_eq_some_iff] at q
    obtain ⟨c, q1, q2⟩ := q
    cases c with
    | none => cases q2
    | some c => cases c <;> cases q2
  exc := fun j c fs q => by
    unfold frzAll at q
    rw [List.getElem?_map, Option.map_eq_some_iff] at q
    obtain ⟨x, q1, q2⟩ := q
    cases x with
    | none => cases q2
    | some x =>
      cases x with
      | exc c' fs' =>
        cases q2
        obtain ⟨a, dd, fvs, h1, h2, h3, h4⟩ := r.exc j c fs q1
        exact ⟨a, dd, fvs, h1, h2, r.fh _ _ h3, h4.mono r.fh⟩
      | _ => cases q2
  pin := fun j p d hb q => by
    unfold frzAll at q
    rw [List.getElem?_map, Option.map_eq_some_iff] at q
    obtain ⟨c, q1, q2⟩ := q
    cases c with
    | none => cases q2
    | some c => cases c <;> cases q2
theorem de_bor (h : PE X a (eG G fa W)) : PE X a (eG G (eBor fa) W) := by
  refine PE.imp h fun σ H Q ⟨B, F0, F, env, rs, p⟩ => ?_
  unfold eBor at p
  split at p
  · rename_i d e1 hf
    split at p
    · rename_i hs
      refine ⟨H, H, H, frzAll env, rs.all, ?_⟩
      rw [hf]
      intro v F' H' rs' e rp
      exact p v F H' (rs.grow ⟨Ex.refl F, rs'.bh, rs.fh.trans rs'.bh, fun a o q => .inl ⟨o, q⟩⟩) (Ex.refl F) (rep_scal hs rp)
    · exact p.elim
  · exact p.elim
end

/-! ### statements -/
def liftE {α : Type} (r : Res (α × DEnv)) (k : α → DEnv → SR) : SR := match r with
  | .ok (a, e) => k a e
  | .er c fs e => .er c fs e
  | .bad => .bad
def isOwnL (env : DEnv) (i : Nat) : Bool := match env[i]? with
  | some (some (.own (.lst _))) => true
  | _ => false
def sSet (i : Nat) (f : EM D) : SM := fun env => liftE (f env) fun d e => .nx (e.set i (some (.val d)))
def sSetO (i : Nat) (f : EM D) : SM := fun env => liftE (f env) fun d e => .nx (e.set i (some (.own d)))
def sNx : SM := .nx
def sSeq (a b : SM) : SM := fun env => match a env with
  | .nx e => b e
  | r => r
def sIf (c : EM Bool) (a b : SM) : SM := fun env => liftE (c env) fun k e => if k = true then a e else b e
def sRet (f : EM D) : SM := fun env => liftE (f env) fun d e => .rt (.val d) e
def sRetF (f : EM D) : SM := fun env => liftE (f env) fun d e => .rt (.own d) e
def sRetN : SM := fun env => .rt (.val .non) env
def sDo (f : EM D) : SM := fun env => liftE (f env) fun _ e => .nx e
/-- return x, x an object of the frame's own -/
def sRetO (i : Nat) : SM := fun env => match env[i]? with
  | some (some (.own d)) => .rt (.own d) env
  | some (some (.val d)) => .rt (.val d) env
  | _ => .bad
def sApp (i : Nat) (f : EM D) : SM := fun env => if isOwnL env i = true then (liftE (f env) fun d e => match e[i]? with
  | some (some (.own (.lst ds))) => if ds.length < 1000000 then .nx (e.set i (some (.own (.lst (ds ++ [d]))))) else .bad
  | _ => .bad) else .bad
/-- x[k] = e, x a list of the frame's own, k not below nought -/
def setI (i : Nat) (d k : D) (e2 : DEnv) : SR := match e2[i]?, k with
  | some (some (.own (.lst ds))), .int n => if 0 ≤ n ∧ n < ds.length then .nx (e2.set i (some (.own (.lst (ds.set n.toNat d))))) else .bad
  | _, _ => .bad
def sSetI (i : Nat) (f fk : EM D) : SM := fun env => liftE (f env) fun d e => if isOwnL e i = true then liftE (fk e) (setI i d) else .bad
def sAug (i : Nat) (op : D → D → Option D) (f : EM D) : SM := fun env => match env[i]? with
  | some (some (.val x)) => liftE (f env) fun y e => match op x y with
    | some z => .nx (e.set i (some (.val z)))
    | none => .bad
  | _ => .bad
def sPar (i j : Nat) (f : EM (List D)) : SM := fun env => liftE (f env) fun ds e => match ds with
  | [x, y] => .nx ((e.set i (some (.val x))).set j (some (.val y)))
  | _ => .bad
section
variable {G : Gx} {X : Cx} {W : WX} {a : Expr} {fa : EM D} {pos p' : Pos} {es : List Expr} {st : Stmt} {rest : List Stmt} {sa sb : SM}
/-- an expression first, what comes of it behind -/
theorem eGS {σ : L2.St} {H : Hp} {Dn : Ends} {k : D → DEnv → SR} {R : VK} {f : EM D} (h : sG G (fun env => liftE (f env) k) W Dn σ H) (kk : ∀ v d H' B F0 F env, RepS G B F0 F H' σ env → Rep G F v d → SPost G B F0 W Dn (k d env) → R v H') : eG G f W σ H R := by
  obtain ⟨B, F0, F, env, rs, p⟩ := h
  refine ⟨B, F0, F, env, rs, ?_⟩
  replace p : SPost G B F0 W Dn (liftE (f env) k) := p
  cases hf : f env with
  | ok x =>
    rw [hf] at p
    exact fun v F' H' rs' e rp => kk v x.1 H' B F0 F' x.2 rs' rp p
  | er c fs e =>
    rw [hf] at p
    exact fun dx F' H' fvs rs' _ h1 h2 => p dx σ F' H' fvs rs' h1 h2
  | bad => rw [hf] at p; exact p
theorem fGS {σ : L2.St} {H : Hp} {Dn : Ends} {k : D → DEnv → SR} {R : VK} {f : EM D} (h : sG G (fun env => liftE (f env) k) W Dn σ H)
    (kk : ∀ p d H' B F0 F env, RepS G B F0 F H' σ env → RepO G F H' p d → F p = none → B p = none → Apart σ env p → SPost G B F0 W Dn (k d env) → R (.ref p) H') : fG G f W σ H R := by
  obtain ⟨B, F0, F, env, rs, p⟩ := h
  refine ⟨B, F0, F, env, rs, ?_⟩
  replace p : SPost G B F0 W Dn (liftE (f env) k) := p
  cases hf : f env with
  | ok x =>
    rw [hf] at p
    exact fun v F' H' rs' e ro h1 h2 h3 => kk v x.1 H' B F0 F' x.2 rs' ro h1 h2 h3 p
  | er c fs e =>
    rw [hf] at p
    exact fun dx F' H' fvs rs' _ h1 h2 => p dx σ F' H' fvs rs' h1 h2
  | bad => rw [hf] at p; exact p
theorem aGS {σ : L2.St} {H : Hp} {Dn : Ends} {k : List D → DEnv → SR} {R : List V → Hp → Prop} {f : EM (List D)} (h : sG G (fun env => liftE (f env) k) W Dn σ H) (kk : ∀ v d H' B F0 F env, RepS G B F0 F H' σ env → RepL G F v d → SPost G B F0 W Dn (k d env) → R v H') : aG G f W σ H R := by
  obtain ⟨B, F0, F, env, rs, p⟩ := h
  refine ⟨B, F0, F, env, rs, ?_⟩
  replace p : SPost G B F0 W Dn (liftE (f env) k) := p
  cases hf : f env with
  | ok x =>
    rw [hf] at p
    exact fun v F' H' rs' e rp => kk v x.1 H' B F0 F' x.2 rs' rp p
  | er c fs e =>
    rw [hf] at p
    exact fun dx F' H' fvs rs' _ h1 h2 => p dx σ F' H' fvs rs' h1 h2
  | bad => rw [hf] at p; exact p
theorem tGS {σ : L2.St} {H : Hp} {Dn : Ends} {k : Bool → DEnv → SR} {R : Bool → Hp → Prop} {f : EM Bool} (h : sG G (fun env => liftE (f env) k) W Dn σ H) (kk : ∀ b H' B F0 F env, RepS G B F0 F H' σ env → SPost G B F0 W Dn (k b env) → R b H') : tG G f W σ H R := by
  obtain ⟨B, F0, F, env, rs, p⟩ := h
  refine ⟨B, F0, F, env, rs, ?_⟩
  replace p : SPost G B F0 W Dn (liftE (f env) k) := p
  cases hf : f env with
  | ok x =>
    rw [hf] at p
    exact fun F' H' rs' e => kk x.1 H' B F0 F' x.2 rs' p
  | er c fs e =>
    rw [hf] at p
    exact fun dx F' H' fvs rs' _ h1 h2 => p dx σ F' H' fvs rs' h1 h2
  | bad => rw [hf] at p; exact p
theorem ds_set {i : Nat} {x : Str} (he : PE X a (eG G fa W)) (hN : X.N.Nodup) (hi : X.N[i]? = some x := by rfl) (hx : Loc X.env.scope x := by first | exact Or.inl rfl | exact Or.inr rfl) (hs : swapsWith a (some (.Name x p')) pos.line X.env = pure false := by rfl)
    (hf : X.fn x = true ∨ X.env.scope.names.lookup x = some .local := by first | exact .inl rfl | exact .inr rfl) : PS X (.Assign [.Name x p'] a pos) (sG G (sSet i fa) W) := by
  refine PS.imp (ps_set hN hi hx he hs hf) fun Dn σ H h => ?_
  exact eGS h fun v d H' B F0 F env rs rp q => q _ F H' (rs.setv i rp)
theorem ds_setO {i : Nat} {x : Str} (he : PE X a (fG G fa W)) (hN : X.N.Nodup) (hi : X.N[i]? = some x := by rfl) (hx : Loc X.env.scope x := by first | exact Or.inl rfl | exact Or.inr rfl) (hs : swapsWith a (some (.Name x p')) pos.line X.env = pure false := by rfl)
    (hf : X.fn x = true ∨ X.env.scope.names.lookup x = some .local := by first | exact .inl rfl | exact .inr rfl) (hp : ∀ q, G.bp ≠ some (i, q) := by intro q h; cases h) : PS X (.Assign [.Name x p'] a pos) (sG G (sSetO i fa) W) := by
  refine PS.imp (ps_set hN hi hx he hs hf) fun Dn σ H h => ?_
  exact fGS h fun p d H' B F0 F env rs ro h1 h2 h3 q => q _ F H' (rs.seto i ro h1 h2 h3 fun z hz => (hp z hz).elim)
theorem ds_nil : PSs X [] (sG G sNx W) := PSs.imp pss_nil fun Dn σ H ⟨B, F0, F, env, rs, p⟩ => p σ F H rs
theorem ds_cons (h1 : PS X st (sG G sa W)) (h2 : PSs X rest (sG G sb W)) : PSs X (st :: rest) (sG G (sSeq sa sb) W) := by
  refine PSs.imp (pss_cons h1 h2) fun Dn σ H ⟨B, F0, F, env, rs, p⟩ => ⟨B, F0, F, env, rs, ?_⟩
  unfold sSeq at p
  cases hf : sa env with
  | nx e =>
    rw [hf] at p
    exact fun σ' F' H' rs' => ⟨B, F0, F', e, rs', p⟩
  | rt c e => rw [hf] at p; exact p
  | bk e => rw [hf] at p; exact p
  | ct e => rw [hf] at p; exact p
  | er c fs e => rw [hf] at p; exact p
  | bad => rw [hf] at p; exact p
theorem ds_one (h1 : PS X st (sG G sa W)) : PSs X [st] (sG G sa W) := pss_one h1
theorem ds_if {tc : EM Bool} {A Bs : List Stmt} (hc : PT X a (tG G tc W)) (ha : PSs X A (sG G sa W)) (hb : PSs X Bs (sG G sb W)) : PS X (.If a A Bs pos) (sG G (sIf tc sa sb) W) := by
  refine PS.imp (ps_if hc ha hb) fun Dn σ H h => ?_
  refine tGS h fun b H' B F0 F env rs q => ?_
  cases b with
  | true => exact ⟨B, F0, F, env, rs, q⟩
  | false => exact ⟨B, F0, F, env, rs, q⟩
theorem ds_ret (he : PE X a (eG G fa W)) : PS X (.Return (some a) pos) (sG G (sRet fa) W) := by
  refine PS.imp (ps_ret he) fun Dn σ H h => ?_
  exact eGS h fun v d H' B F0 F env rs rp q => q v σ F H' rs rp
theorem ds_retF (he : PE X a (fG G fa W)) : PS X (.Return (some a) pos) (sG G (sRetF fa) W) := by
  refine PS.imp (ps_ret he) fun Dn σ H h => ?_
  exact fGS h fun p d H' B F0 F env rs ro h1 h2 h3 q => q _ σ F H' rs ⟨p, rfl, ro, h1, h2⟩
theorem ds_retN : PS X (.Return none pos) (sG G sRetN W) := by
  refine PS.imp ps_retN fun Dn σ H ⟨B, F0, F, env, rs, p⟩ => ?_
  exact p _ σ F H rs .non
theorem ds_retO {i : Nat} {x : Str} (hN : X.N[i]? = some x := by rfl) (hv : Vis X.env.scope x := by first | exact Or.inl rfl | exact Or.inr (Or.inl rfl) | exact Or.inr (Or.inr rfl)) (hd : (x == ("__debug__" : Str)) = false := by decide)
    (hcd : (x == ("__classdict__" : Str)) = false := by decide) : PS X (.Return (some (.Name x p')) pos) (sG G (sRetO i) W) := by
  refine PS.imp (ps_ret (pe_var hN hv hd hcd)) fun Dn σ H ⟨B, F0, F, env, rs, p⟩ => ?_
  unfold sRetO at p
  split at p
  · rename_i d he
    obtain ⟨q, h1, h2, h3, h4⟩ := rs.own i d he
    exact ⟨_, h1, p _ σ F H rs ⟨q, rfl, h2, h3, h4⟩⟩
  · rename_i d he
    obtain ⟨v, h1, h2⟩ := rs.val i d he
    exact ⟨v, h1, p v σ F H rs h2⟩
  · exact p.elim
theorem ds_expr (he : PE X a (eG G fa W)) (hs : swapsWith a none pos.line X.env = pure false := by rfl) : PS X (.Expr a pos) (sG G (sDo fa) W) := by
  refine PS.imp (ps_expr he hs) fun Dn σ H h => ?_
  exact eGS h fun v d H' B F0 F env rs rp q => q σ F H' rs
theorem ds_pass : PS X (.Pass pos) (sG G sNx W) := PS.imp ps_pass fun Dn σ H ⟨B, F0, F, env, rs, p⟩ => p σ F H rs
/-- x.append(e): he by pe_bm .. mt_append (pv i) (pa_cons .. pa_nil) -/
theorem ds_app {i : Nat} (he : PE X a (tBM X.K "list" rAppend (tVar i) (tCons (eG G fa W) tNil))) (hs : swapsWith a none pos.line X.env = pure false := by rfl) : PS X (.Expr a pos) (sG G (sApp i fa) W) := by
  refine PS.imp (ps_expr he hs) fun Dn σ H ⟨B, F0, F, env, rs, p⟩ => ?_
  unfold sApp at p
  split at p
  · rename_i ho
    unfold isOwnL at ho
    split at ho
    · rename_i ds0 h0
      obtain ⟨q, h1, ⟨vs0, h2, _⟩, h3, h4⟩ := rs.own i _ h0
      refine ⟨_, h1, .inl ⟨rfl, vs0, sq_of h2⟩, ?_⟩
      refine eGS (f := fa) ⟨B, F0, F, env, rs, p⟩ fun v d H' B' F0' F' env' rs' rp q' => ?_
      split at q'
      · rename_i ds h5
        split at q'
        · rename_i hl
          obtain ⟨q2, g1, ⟨vs, g2, g3⟩, g4, g5⟩ := rs'.own i _ h5
          have e : q2 = q := by
            rw [h1] at g1
            cases g1
            rfl
          subst e
          refine ⟨q2, vs, v, rfl, rfl, g2, lt_line (by rw [g3.length]; omega), ?_⟩
          exact q' σ F' _ (rs'.own_put h5 g1 g4 g5 ⟨_, upd_same, g3.append (.cons rp .nil)⟩)
        · exact q'.elim
      · exact q'.elim
    · cases ho
  · exact p.elim
/-- x[k] = e -/
theorem ds_seti {i : Nat} {x : Str} {b : Expr} {fb : EM D} {q1 q2 : Pos} (ha : PE X a (eG G fa W)) (hb : PE X b (eG G fb W)) (hN : X.N[i]? = some x := by rfl) (hv : Vis X.env.scope x := by first | exact Or.inl rfl | exact Or.inr (Or.inl rfl) | exact Or.inr (Or.inr rfl))
    (hd : (x == ("__debug__" : Str)) = false := by decide) (hcd : (x == ("__classdict__" : Str)) = false := by decide)
    (hsub : ∀ v, assign (.Subscript (.Name x q1) b q2) X.env v = (do
      let ov ← holding [v] (eval (.Name x q1) X.env)
      let iv ← holding [v, ov] (eval b X.env)
      standAt q2
      holding [v, ov, iv] (setItem ov iv v)
      release [v, ov, iv] []) := by intro _; rfl)
    (hs : swapsWithSole [.Subscript (.Name x q1) b q2] a pos.line X.env = pure false := by rfl) (hw : swappedStores [.Subscript (.Name x q1) b q2] a X.env = pure none := by rfl)
    (h1 : (assignEach [.Subscript (.Name x q1) b q2] X.env).map (·.2) = [assign (.Subscript (.Name x q1) b q2) X.env] := by rfl) :
    PS X (.Assign [.Subscript (.Name x q1) b q2] a pos) (sG G (sSetI i fa fb) W) := by
  refine PS.imp (ps_asg ha (pg_sub (pe_var hN hv hd hcd) hb set_list hsub) hs hw h1) fun Dn σ H h => ?_
  refine eGS h fun v d H' B F0 F env rs rp q => ?_
  split at q
  · rename_i ho
    unfold isOwnL at ho
    split at ho
    · rename_i ds0 h0
      obtain ⟨p0, g1, _, _, _⟩ := rs.own i _ h0
      refine ⟨_, g1, B, F0, F, env, rs, ?_⟩
      cases hf : fb env with
      | ok z =>
        rw [hf] at q
        obtain ⟨k, e2⟩ := z
        replace q : SPost G B F0 W Dn (setI i d k e2) := q
        intro kv F' H2 rs' ex rk
        unfold setI at q
        split at q
        · rename_i ds n h5
          split at q
          · rename_i hc
            obtain ⟨p1, g2, ⟨vs, g3, g4⟩, g5, g6⟩ := rs'.own i _ h5
            have e : p1 = p0 := by
              rw [g1] at g2
              cases g2
              rfl
            subst e
            have hl := g4.length
            refine ⟨p1, vs, n, n.toNat, rfl, rep_int rk, g3, ?_, ?_⟩
            · unfold ixN
              rw [if_pos hc.1, if_pos (by omega)]
            · exact q σ F' _ (rs'.own_put h5 g1 g5 g6 ⟨_, upd_same, RepL.set (rp.mono ex) _ g4⟩)
          · exact q.elim
        · exact q.elim
      | er c fs e =>
        rw [hf] at q
        exact fun dx F' H2 fvs rs' _ h1 h2 => q dx σ F' H2 fvs rs' h1 h2
      | bad => rw [hf] at q; exact q
    · cases ho
  · exact q.elim
/-- name op= e -/
theorem ds_aug {i : Nat} {x : Str} {op : Operator} {r : R2} {f : D → D → Option D} (he : PE X a (eG G fa W)) (ho : OpR X (inplaceOp op) r) (hf' : OpD G r f) (hN : X.N.Nodup) (hi : X.N[i]? = some x := by rfl) (hx : Loc X.env.scope x := by first | exact Or.inl rfl | exact Or.inr rfl)
    (hf : X.fn x = true ∨ X.env.scope.names.lookup x = some .local := by first | exact .inl rfl | exact .inr rfl) : PS X (.AugAssign (.Name x p') op a pos) (sG G (sAug i f fa) W) := by
  refine PS.imp (ps_aug hN hi hx he ho hf) fun Dn σ H ⟨B, F0, F, env, rs, p⟩ => ?_
  unfold sAug at p
  split at p
  · rename_i d he'
    obtain ⟨v, h1, h2⟩ := rs.val i d he'
    refine ⟨v, h1, B, F0, F, env, rs, ?_⟩
    cases hq : fa env with
    | ok z =>
      rw [hq] at p
      obtain ⟨y, e⟩ := z
      replace p : SPost G B F0 W Dn (match f d y with | some z => .nx (e.set i (some (.val z))) | none => .bad) := p
      intro u F' H' rs' ex ru
      cases hz : f d y with
      | none => rw [hz] at p; exact p.elim
      | some z =>
        rw [hz] at p
        refine hf' F' H' v u d y z _ rs'.fh (h2.mono ex) ru hz fun w F2 H2 g rw' => ?_
        exact p _ F2 H2 ((rs'.grow g).setv i rw')
    | er c fs e =>
      rw [hq] at p
      exact fun dx F' H2 fvs rs' _ h1 h2 => p dx σ F' H2 fvs rs' h1 h2
    | bad => rw [hq] at p; exact p
  · exact p.elim
/-- x, y = e1, e2 (plain locals) -/
theorem ds_par {i j : Nat} {x y : Str} {b : Expr} {fr : EM (List D)} {px py pt pt2 : Pos} {kt k2} (ha : PA X [a, b] (aG G fr W)) (hc : X.calm = true) (hN : X.N.Nodup) (hi : X.N[i]? = some x := by rfl) (hj : X.N[j]? = some y := by rfl) (hij : i ≠ j := by decide)
    (hx : X.env.scope.names.lookup x = some .local := by rfl) (hy : X.env.scope.names.lookup y = some .local := by rfl)
    (hw : swappedStores [.Tuple [.Name x px, .Name y py] kt pt] (.Tuple [a, b] k2 pt2) X.env = pure (some [x, y]) := by rfl)
    (hs : swapsWithSole [.Tuple [.Name x px, .Name y py] kt pt] (.Tuple [a, b] k2 pt2) pos.line X.env = pure false := by rfl) :
    PS X (.Assign [.Tuple [.Name x px, .Name y py] kt pt] (.Tuple [a, b] k2 pt2) pos) (sG G (sPar i j fr) W) := by
  refine PS.imp (ps_par hc hN hi hj hij hx hy ha hw hs) fun Dn σ H h => ?_
  refine aGS h fun vs ds H' B F0 F env rs rl q => ?_
  split at q
  · rename_i d e
    obtain ⟨v, u, rfl, h1, h2⟩ := repL2 rl
    exact ⟨v, u, rfl, q _ F H' ((rs.setv i h1).setv j h2)⟩
  · exact q.elim
end
end DL
end

section
set_option Elab.async false
set_option linter.all false
set_option autoImplicit false
set_option maxRecDepth 100000
set_option maxHeartbeats 4000000
/-! DL4: defs, calls, repr, isinstance. -/
namespace DL
open PySem L2 PyProof.Rows PySem.Spec

/-! ### a def's promise where no repr is under way -/
structure FnG (P : Program) (w : World) (K : PySem.W.Frag) (mg : Str → Option Value) (base : Heap) (k : Nat) (f : Addr) (fd : FuncData) (ps : List Str) (sp : Sp) : Prop where
  len : ∀ vs H Q E, sp vs H Q E → vs.length = ps.length
  run : ∀ (A : Around) (outer : List PySem.Env) (s : Shared) (H : Hp) (args : Args) (us : List Value) (vs : List V) (Q : VK) (E : XK), Room k A → A.guards = some [] → Env0 P w K mg base A outer s H →
    BindsTo s fd args (ps.zip us) → Vals vs us → sp vs H Q E → codeAny (model P w) A (.call (.ref f) args) (CR (L2.CX P w) outer P w H s Q E) s
theorem FnG.of {P : Program} {w : World} {K : PySem.W.Frag} {mg : Str → Option Value} {base : Heap} {k : Nat} {f : Addr} {fd : FuncData} {ps : List Str} {sp : Sp} (h : FnOk P w K mg base (L2.CX P w) k f fd ps sp) : FnG P w K mg base k f fd ps sp :=
  ⟨h.len, fun A outer s H args us vs Q E hr _ => h.run A outer s H args us vs Q E hr⟩
theorem FnG.mono {P : Program} {w : World} {K : PySem.W.Frag} {mg : Str → Option Value} {base : Heap} {j k : Nat} {f : Addr} {fd : FuncData} {ps : List Str} {sp : Sp} (h : FnG P w K mg base j f fd ps sp) (hj : j ≤ k) : FnG P w K mg base k f fd ps sp :=
  ⟨h.len, fun A outer s H args us vs Q E hr => h.run A outer s H args us vs Q E (hr.mono hj)⟩
/-- by its body -/
theorem fnG_of {P : Program} {w : World} {K : PySem.W.Frag} {mg : Str → Option Value} {base : Heap} {k : Nat} {f : Addr} {name qual : Str} {params : Arguments} {body : List Stmt} {scope : Scope} {dV kV doc pm cdv ct oc : Value} {an od : Option Addr}
    {osl : Array (Option Value)} {N ps : List Str} {sp : Sp} (lk : K.lookup f = some ⟨oc, od, .func (PySem.W.fnOf name qual params body scope dV kV doc pm an cdv ct), osl⟩) (hcd : PySem.W.codeIn K cdv qual = true) (S : FnScope N ps scope)
    (hlen : ∀ vs H Q E, sp vs H Q E → vs.length = ps.length)
    (hbody : ∀ (A : Around) (outer : List PySem.Env) (s : Shared) (H : Hp) (vs : List V) (Q : VK) (E : XK), Room k (A.deeper (envOfC qual scope s.heap.objs.size f cdv)) → A.guards = some [] → sp vs H Q E →
      ∃ t, PSs (cxOf (L2.CX P w) P w K mg base N qual scope f cdv A outer s H E) body t ∧ t { nx := fun _ H' => Q .non H', rt := Q } (start N vs) H) :
    FnG P w K mg base (k + 1) f (PySem.W.fnOf name qual params body scope dV kV doc pm an cdv ct) ps sp := by
  refine ⟨hlen, fun A outer s H args us vs Q E room hgd env0 hbind rel hsp => ?_⟩
  have stays : ∀ b o, base.get? b = some o → s.heap.get? b = some o := fun b o q => (env0.bs b o q).1
  have inK : K.In s.heap := env0.mod.kin.keeps stays
  have hkinds : ∀ y ∈ ps.zip us, scope.names.lookup y.1 = some .local ∨ (scope.names.lookup y.1 = some .cell ∧ ((cellsFrom (s.heap.objs.size + 1) scope.names []).lookup y.1).isSome = true) := by
    rintro ⟨nm, uv⟩ hy
    rcases S.par nm (List.of_mem_zip hy).1 with q | q
    · exact Or.inl q
    · exact Or.inr ⟨q, PySem.W.cellsFrom_some _ _ _ (Or.inl q)⟩
  refine codeAny_call_function room.depth (inK _ _ lk) rfl S.co S.gen rfl (PySem.W.codeRec_of inK hcd) (hbind _ _ _ _ ?_)
  refine wpAny_newFunctionEnv_cells S.kind hkinds fun fenv hfe s1 inc => ?_
  subst hfe
  refine ⟨(env0.mod.nolimit.keeps stays).keeps inc.toInCall.keep, codeAny_func ?_⟩
  obtain ⟨t, pt, rd⟩ := hbody A outer s H vs Q E (room.deeper _) hgd hsp
  have I := inv_start (CX := L2.CX P w) (E := E) S room.hd env0 (hlen _ _ _ _ hsp) rel inc
  refine wpAny_mono (pt.run [] s1 (start N vs) H _ I rd) (fun fl s' out => ?_) fun e s' out => out
  cases fl with
  | ret u =>
    obtain ⟨v, σ', H', J, rv, q⟩ := out
    exact ⟨v, H', J.os, J.bare, J.base, J.hok, rv, q⟩
  | next =>
    obtain ⟨σ', H', J, q⟩ := out
    exact ⟨V.non, H', J.os, J.bare, J.base, J.hok, rfl, q⟩
  | brk =>
    obtain ⟨_, _, _, q⟩ := out
    exact q.elim
  | cont =>
    obtain ⟨_, _, _, q⟩ := out
    exact q.elim
section
variable {X : Cx} {k : Nat} {f : Addr} {fd : FuncData} {ps : List Str} {sp : Sp} {dvs : List V} {ds : List Value} {x : Str} {p pos : Pos} {e : Expr} {es : List Expr} {t : TA} {W : WX}
/-- f(e, ..), what is raised is taken by W -/
theorem pe_callG (Fn : FnG X.prog X.w X.K X.mg X.base k f fd ps sp) (hr : Room k X.A) (hgd : X.A.guards = some []) (hm : X.mg x = some (.ref f)) (hk : PySem.W.keepIn X.K (.ref f) = true) (hb : Binds X.K fd ps ds) (hd : Vals dvs ds) (tk : Takes X W)
    (ha : PA X (e :: es) t) (hg : Gl X x := by rfl) (hdb : (x == ("__debug__" : Str)) = false := by decide) (he : starEach (e :: es) X.env = (false, eval e X.env) :: starEach es X.env := by rfl) (hpl : (backTo pos (starEach es X.env)).any (·.1) = false := by rfl) :
    PE X (.Call (.Name x p) (e :: es) [] pos) (tCallSD sp dvs (WE W) t) := by
  refine ⟨fun pins s σ H Q I h => wpAny_Call_Name_kw (ld_glob I hg hm ?_ hdb)⟩
  refine PySem.W.callWith_K (h₀ := X.base) I.ok.mod.kin hk (thn (ha.run pos pins s σ H _ I h) fun us s1 ⟨vs, H1, I1, rel, q⟩ => ⟨I1.kIn, ?_⟩) he hpl
  have rel2 : Vals (vs ++ dvs) (us ++ ds) := rel.append hd
  have hlen : (us ++ ds).length = ps.length := by
    rw [← rel2.length]
    exact Fn.len _ _ _ _ q
  refine wpAny_call (codeAny_mono (Fn.run X.A X.stack s1 H1 ⟨us, []⟩ (us ++ ds) (vs ++ dvs) Q (WE W σ) hr hgd I1.env0 (hb s1 us I1.kIn hlen) rel2 q) fun out s' hq => ?_)
  cases out with
  | error er => exact passAt tk σ pins H1 s1 er s' I1 hq
  | ok fl =>
    cases fl with
    | ret u => exact I1.after hq
    | next => exact hq.elim
    | brk => exact hq.elim
    | cont => exact hq.elim
end

/-! ### promises by data -/
inductive FR where
  | ok (c : Cell)
  | er (c : Nat) (fs : List (Str × D))
  | bad
def RetC (G : Gm) (H F' H' : Hp) (v : V) : Cell → Prop
  | .val d => Rep G F' v d
  | .own d => ∃ p, v = .ref p ∧ RepO G F' H' p d ∧ F' p = none ∧ H p = none
  | .exc _ _ => False
def FPo (G : Gm) (F H : Hp) (Q : VK) (E : XK) : FR → Prop
  | .ok c => ∀ v F' H', Grow F H F' H' → RetC G H F' H' v c → Q v H'
  | .er c fs => ∀ dx F' H' fvs, Grow F H F' H' → F' dx = some (.xd fvs) → RepF G F' fvs fs → E (.ref (G.cl c)) (some dx) H'
  | .bad => False
/-- a def of data: nothing that stood is changed -/
def spF (G : Gm) (n : Nat) (Φ : List D → FR) : Sp := fun vs H Q E => vs.length = n ∧ ∃ F ds, Ex F H ∧ RepL G F vs ds ∧ FPo G F H Q E (Φ ds)
/-- .. as an expression -/
def frE (env : DEnv) : FR → Res (D × DEnv)
  | .ok (.val d) => .ok (d, env)
  | .ok (.own d) => .ok (d, env)
  | .ok (.exc _ _) => .bad
  | .er c fs => .er c fs env
  | .bad => .bad
def eFn (Φ : List D → FR) (dds : List D) (a : EM (List D)) : EM D := bnd a fun ds env => frE env (Φ (ds ++ dds))
/-- .. whose value is a new object that nothing else holds -/
def frO (env : DEnv) : FR → Res (D × DEnv)
  | .ok (.own d) => .ok (d, env)
  | .er c fs => .er c fs env
  | _ => .bad
def eFnO (Φ : List D → FR) (dds : List D) (a : EM (List D)) : EM D := bnd a fun ds env => frO env (Φ (ds ++ dds))
section
variable {G : Gx} {X : Cx} {W : WX} {a : Expr} {es : List Expr}
theorem eG_fn {Φ : List D → FR} {n : Nat} {dds : List D} {dvs : List V} {fr : EM (List D)} {σ : L2.St} {H : Hp} {Q : VK} (hl : ∀ ds, Φ (ds ++ dds) ≠ .bad → ds.length + dds.length = n) (hd : ∀ F, RepL G F dvs dds) (h : eG G (eFn Φ dds fr) W σ H Q) :
    tCallSD (spF G n Φ) dvs (WE W) (aG G fr W) σ H Q := by
  refine aGE_bnd up_true h.c fun vs ds H1 ⟨B, F0, F, env, rs, ⟨_, rl⟩, p⟩ => ?_
  have rl2 := rl.append (hd F)
  refine ⟨?_, F, ds ++ dds, rs.fh, rl2, ?_⟩
  · rw [rl2.length, List.length_append]
    refine hl ds fun z => ?_
    rw [z] at p
    exact p
  · cases hf : Φ (ds ++ dds) with
    | bad => rw [hf] at p; exact p
    | er c fs =>
      rw [hf] at p
      exact fun dx F' H' fvs g h1 h2 => p dx F' H' fvs (rs.grow g) g.f h1 h2
    | ok c =>
      rw [hf] at p
      intro v F' H' g rc
      cases c with
      | val d => exact p v F' H' (rs.grow g) g.f rc
      | exc _ _ => exact rc.elim
      | own d =>
        obtain ⟨q, rfl, ro, h1, h2⟩ := rc
        obtain ⟨o, h5, h6⟩ := ro.freeze h1
        have rs' := rs.grow g
        exact p _ _ _ (rs'.addF h5 h1 (rs.bh.back h2) (rs.apartNew h2)) (g.f.trans (Ex.new h1)) h6
theorem fG_fn {Φ : List D → FR} {n : Nat} {dds : List D} {dvs : List V} {fr : EM (List D)} {σ : L2.St} {H : Hp} {Q : VK} (hl : ∀ ds, Φ (ds ++ dds) ≠ .bad → ds.length + dds.length = n) (hd : ∀ F, RepL G F dvs dds) (h : fG G (eFnO Φ dds fr) W σ H Q) :
    tCallSD (spF G n Φ) dvs (WE W) (aG G fr W) σ H Q := by
  obtain ⟨B, F0, F, env, rs, p⟩ := h
  refine ⟨B, F0, F, env, rs, ?_⟩
  unfold eFnO bnd at p
  cases ha : fr env with
  | bad => rw [ha] at p; exact p
  | er c fs e => rw [ha] at p; exact p
  | ok z =>
    rw [ha] at p
    obtain ⟨ds, e⟩ := z
    replace p : FPost G B F0 F σ W Q (frO e (Φ (ds ++ dds))) := p
    intro vs F1 H1 rs1 ex1 rl
    have rl2 := rl.append (hd F1)
    refine ⟨?_, F1, ds ++ dds, rs1.fh, rl2, ?_⟩
    · rw [rl2.length, List.length_append]
      refine hl ds fun z => ?_
      rw [z] at p
      exact p
    · cases hf : Φ (ds ++ dds) with
      | bad => rw [hf] at p; exact p
      | er c fs =>
        rw [hf] at p
        exact fun dx F' H' fvs g h1 h2 => p dx F' H' fvs (rs1.grow g) (ex1.trans g.f) h1 h2
      | ok c =>
        rw [hf] at p
        intro v F' H' g rc
        cases c with
        | val d => exact p.elim
        | exc _ _ => exact rc.elim
        | own d =>
          obtain ⟨q, rfl, ro, h1, h2⟩ := rc
          exact p q F' H' (rs1.grow g) (ex1.trans g.f) ro h1 (rs1.bh.back h2) (rs1.apartNew h2)
end
/-- a def of the program, as it is called -/
structure Cal (G : Gm) (X : Cx) (x : Str) (n : Nat) (Φ : List D → FR) (dds : List D) : Prop where
  ex : ∃ (k : Nat) (f : Addr) (fd : FuncData) (ps : List Str) (ds : List Value) (dvs : List V), FnG X.prog X.w X.K X.mg X.base k f fd ps (spF G n Φ) ∧ Room k X.A ∧ X.mg x = some (.ref f) ∧ PySem.W.keepIn X.K (.ref f) = true ∧ Binds X.K fd ps ds ∧ Vals dvs ds ∧ (∀ F, RepL G F dvs dds)
  len : ∀ ds, Φ (ds ++ dds) ≠ .bad → ds.length + dds.length = n
section
variable {G : Gx} {X : Cx} {W : WX} {a : Expr} {es : List Expr} {x : Str} {n : Nat} {Φ : List D → FR} {dds : List D} {fr : EM (List D)} {p pos : Pos}
theorem de_fn (c : Cal G X x n Φ dds) (hgd : X.A.guards = some []) (tk : Takes X W) (ha : PA X (a :: es) (aG G fr W)) (hg : Gl X x := by rfl) (hdb : (x == ("__debug__" : Str)) = false := by decide) (he : starEach (a :: es) X.env = (false, eval a X.env) :: starEach es X.env := by rfl) (hpl : (backTo pos (starEach es X.env)).any (·.1) = false := by rfl) :
    PE X (.Call (.Name x p) (a :: es) [] pos) (eG G (eFn Φ dds fr) W) := by
  obtain ⟨k, f, fd, ps, ds, dvs, h1, h2, h3, h4, h5, h6, h7⟩ := c.ex
  exact PE.imp (pe_callG h1 h2 hgd h3 h4 h5 h6 tk ha hg hdb he hpl) fun _ _ _ h => eG_fn c.len h7 h
theorem df_fn (c : Cal G X x n Φ dds) (hgd : X.A.guards = some []) (tk : Takes X W) (ha : PA X (a :: es) (aG G fr W)) (hg : Gl X x := by rfl) (hdb : (x == ("__debug__" : Str)) = false := by decide) (he : starEach (a :: es) X.env = (false, eval a X.env) :: starEach es X.env := by rfl) (hpl : (backTo pos (starEach es X.env)).any (·.1) = false := by rfl) :
    PE X (.Call (.Name x p) (a :: es) [] pos) (fG G (eFnO Φ dds fr) W) := by
  obtain ⟨k, f, fd, ps, ds, dvs, h1, h2, h3, h4, h5, h6, h7⟩ := c.ex
  exact PE.imp (pe_callG h1 h2 hgd h3 h4 h5 h6 tk ha hg hdb he hpl) fun _ _ _ h => fG_fn c.len h7 h
end

/-! ### a def that changes its first argument, a list that the caller owns -/
inductive FT where
  | ok (v d : D)
  | bad
def spT (G : Gm) (n : Nat) (Φ : D → List D → FT) : Sp := fun vs H Q E => vs.length = n ∧ ∃ F p vs' d ds, vs = .ref p :: vs' ∧ Ex F H ∧ RepO G F H p d ∧ F p = none ∧ RepL G F vs' ds ∧ match Φ d ds with
  | .ok c d' => ∀ v F' H', Ex (del H p) H' → Ex F F' → Ex F' H' → (∀ a o, F' a = some o → (∃ u, F a = some u) ∨ del H p a = none) → F' p = none → RepO G F' H' p d' → Rep G F' v c → Q v H'
  | .bad => False
def eFnT (Φ : D → List D → FT) (i : Nat) (a : EM (List D)) : EM D := fun env => match env[i]? with
  | some (some (.own _)) => (bnd a fun ds env1 => match env1[i]? with
    | some (some (.own d)) => (match Φ d ds with
      | .ok c d' => .ok (c, env1.set i (some (.own d')))
      | .bad => .bad)
    | _ => .bad) env
  | _ => .bad
structure CalT (G : Gm) (X : Cx) (x : Str) (n : Nat) (Φ : D → List D → FT) : Prop where
  ex : ∃ (k : Nat) (f : Addr) (fd : FuncData) (ps : List Str), FnG X.prog X.w X.K X.mg X.base k f fd ps (spT G n Φ) ∧ Room k X.A ∧ X.mg x = some (.ref f) ∧ PySem.W.keepIn X.K (.ref f) = true ∧ Binds X.K fd ps []
  len : ∀ d ds, Φ d ds ≠ .bad → ds.length + 1 = n
section
variable {G : Gx} {X : Cx} {W : WX} {es : List Expr} {x y : Str} {n i : Nat} {Φ : D → List D → FT} {fr : EM (List D)} {p py pos : Pos}
theorem de_fnT (c : CalT G X x n Φ) (hgd : X.A.guards = some []) (tk : Takes X W) (ha : PA X es (aG G fr W)) (hN : X.N[i]? = some y := by rfl) (hv : Vis X.env.scope y := by first | exact Or.inl rfl | exact Or.inr (Or.inl rfl) | exact Or.inr (Or.inr rfl)) (hg : Gl X x := by rfl)
    (hdb : (x == ("__debug__" : Str)) = false := by decide) (hdy : (y == ("__debug__" : Str)) = false := by decide) (hcd : (y == ("__classdict__" : Str)) = false := by decide) (he : starEach (.Name y py :: es) X.env = (false, eval (.Name y py) X.env) :: starEach es X.env := by rfl) (hpl : (backTo pos (starEach es X.env)).any (·.1) = false := by rfl) :
    PE X (.Call (.Name x p) (.Name y py :: es) [] pos) (eG G (eFnT Φ i fr) W) := by
  obtain ⟨k, f, fd, ps, h1, h2, h3, h4, h5⟩ := c.ex
  refine PE.imp (pe_callG (dvs := []) h1 h2 hgd h3 h4 h5 .nil tk (pa_cons (pe_var hN hv hdy hcd) ha he) hg hdb he hpl) fun σ H Q ⟨B, F0, F, env, rs, q⟩ => ?_
  unfold eFnT at q
  split at q
  · rename_i d0 h0
    obtain ⟨p0, g1, _, _, _⟩ := rs.own i d0 h0
    refine ⟨_, g1, B, F0, F, env, rs, ?_⟩
    unfold bnd at q
    cases hf : fr env with
    | bad => rw [hf] at q; exact q
    | er c fs e => rw [hf] at q; exact q
    | ok z =>
      rw [hf] at q
      obtain ⟨ds, env1⟩ := z
      replace q : EPost G B F0 F σ W Q (match env1[i]? with
        | some (some (.own d)) => (match Φ d ds with
          | .ok c d' => .ok (c, env1.set i (some (.own d')))
          | .bad => .bad)
        | _ => .bad) := q
      intro vs F1 H1 rs1 ex1 rl
      split at q
      · rename_i d h6
        obtain ⟨p1, g2, ro, g3, g4⟩ := rs1.own i d h6
        have e : p1 = p0 := by
          rw [g1] at g2
          cases g2
          rfl
        subst e
        have hlen := rl.length
        cases hΦ : Φ d ds with
        | bad => rw [hΦ] at q; exact q.elim
        | ok c2 d2 =>
          rw [hΦ] at q
          have hn := c.len d ds (by rw [hΦ]; intro z; cases z)
          refine ⟨by simp; omega, F1, p1, vs, d, ds, by simp, rs1.fh, ro, g3, rl, ?_⟩
          rw [hΦ]
          intro v F' H' e1 e2 e3 e4 e5 ro' rv
          refine q v F' H' ?_ (ex1.trans e2) rv
          have hB : Ex B (del H1 p1) := fun b o z => by
            rw [del_ne]
            · exact rs1.bh b o z
            · intro zz
              subst zz
              rw [g4] at z
              cases z
          have r1 := rs1.forget (some (.ref p1)) i
          have es : σ.set i (some (V.ref p1)) = σ := by
            apply List.ext_getElem?
            intro j
            rw [List.getElem?_set]
            by_cases hj : i = j
            · subst hj
              rw [if_pos rfl, if_pos (List.getElem?_eq_some_iff.mp g1).1, g1]
            · rw [if_neg hj]
          rw [es] at r1
          have ap : Apart σ (env1.set i none) p1 := fun j e q z => by
            rw [List.getElem?_set] at q
            by_cases hj : i = j
            · subst hj
              rw [if_pos rfl] at q
              split at q <;> cases q
            · rw [if_neg hj] at q
              exact rs1.sep j i e d p1 (Ne.symm hj) q h6 z g1
          have hdel : ∀ {b : Addr} {o : HO}, b ≠ p1 → H1 b = some o → H' b = some o := fun {b o} hb z => e1 b o (by rw [del_ne hb]; exact z)
          have r2 : RepS G B F0 F' H' σ (env1.set i none) := {
            bh := hB.trans e1
            f0 := r1.f0.trans e2
            fh := e3
            fr := fun b o z => by
              rcases e4 b o z with ⟨u, hu⟩ | hu
              · exact r1.fr b u hu
              · exact .inr (hB.back hu)
            len := r1.len
            val := fun j dd z => by
              obtain ⟨v, a1, a2⟩ := r1.val j dd z
              exact ⟨v, a1, a2.mono e2⟩
            own := fun j dd z => by
              obtain ⟨pj, a1, a2, a3, a4⟩ := r1.own j dd z
              have hne : pj ≠ p1 := fun zz => by
                subst zz
                exact ap j dd z a1
              refine ⟨pj, a1, a2.at e2 fun o zz => hdel hne zz, ?_, a4⟩
              cases zz : F' pj with
              | none => rfl
              | some o =>
                rcases e4 pj o zz with ⟨u, hu⟩ | hu
                · rw [a3] at hu
                  cases hu
                · obtain ⟨o2, ho2⟩ := a2.is
                  rw [del_ne hne, ho2] at hu
                  cases hu
            sep := r1.sep
            exc := fun j c fs z => by
              obtain ⟨a, dd, fvs, a1, a2, a3, a4⟩ := r1.exc j c fs z
              exact ⟨a, dd, fvs, a1, a2, e2 _ _ a3, a4.mono e2⟩
            pin := r1.pin }
          have r3 := r2.seto i ro' e5 g4 ap fun q hq => by
            have z := rs1.pin i q d hq h6
            rw [g1] at z
            cases z
            rfl
          rw [es, List.set_set] at r3
          exact r3
      · exact q.elim
  · exact q.elim
end

/-! ### how a body becomes a promise -/
section
variable {G : Gm}
theorem start_get (N : List Str) (vs : List V) (i : Nat) (h : i < vs.length) : (start N vs)[i]? = (vs[i]?).map some := by
  unfold L2.start
  rw [List.getElem?_append_left (by simpa using h), List.getElem?_map]
/-- the environment at a def's entry -/
def entry (n : Nat) (ds : List D) : DEnv := ds.map (fun d => some (.val d)) ++ List.replicate (n - ds.length) none
theorem rep_entry {XA : Addr → Addr → Nat → Prop} {F H : Hp} {vs : List V} {ds : List D} (N : List Str) (ef : Ex F H) (r : RepL G F vs ds) : RepS ⟨G, XA, none⟩ H F F H (start N vs) (entry N.length ds) where
  bh := Ex.refl H
  f0 := Ex.refl F
  fh := ef
  fr := fun a o q => .inl ⟨o, q⟩
  len := by simp [entry, L2.start, r.length]
  val := fun i d q => by
    unfold entry at q
    by_cases hi : i < ds.length
    · rw [List.getElem?_append_left (by simpa using hi), List.getElem?_map, Option.map_eq_some_iff] at q
      obtain ⟨d', q1, q2⟩ := q
      cases q2
      obtain ⟨v, h1, h2⟩ := r.get q1
      exact ⟨v, by rw [start_get N vs i (by rw [r.length]; exact hi), h1]; rfl, h2⟩
    · rw [List.getElem?_append_right (by simpa using hi), List.getElem?_replicate] at q
      split at q <;> cases q
  own := fun i d q => by
    unfold entry at q
    by_cases hi : i < ds.length
    · rw [List.getElem?_append_left (by simpa using hi), List.getElem?_map, Option.map_eq_some_iff] at q
      obtain ⟨d', q1, q2⟩ := q
      cases q2
    · rw [List.getElem?_append_right (by simpa using hi), List.getElem?_replicate] at q
      split at q <;> cases q
  sep := fun i j d e p _ q => by
    unfold entry at q
    by_cases hi : i < ds.length
    · rw [List.getElem?_append_left (by simpa using hi), List.getElem?_map, Option.map_eq_some_iff] at q
      obtain ⟨d', q1, q2⟩ := q
      cases q2
    · rw [List.getElem?_append_right (by simpa using hi), List.getElem?_replicate] at q
      split at q <;> cases q
  exc := fun i c fs q => by
    unfold entry at q
    by_cases hi : i < ds.length
    · rw [List.getElem?_append_left (by simpa using hi), List.getElem?_map, Option.map_eq_some_iff] at q
      obtain ⟨d', q1, q2⟩ := q
      cases q2
    · rw [List.getElem?_append_right (by simpa using hi), List.getElem?_replicate] at q
      split at q <;> cases q
  pin := fun i p d hb => by cases hb
/-- a def's meaning by its body's -/
def fnSem (m n : Nat) (body : SM) : List D → FR := fun ds => if ds.length = m then (match body (entry n ds) with
  | .nx _ => .ok (.val .non)
  | .rt (.exc _ _) _ => .bad
  | .rt c _ => .ok c
  | .er c fs _ => .er c fs
  | _ => .bad) else .bad
theorem fnSem_len {m n : Nat} {body : SM} {ds : List D} (h : fnSem m n body ds ≠ .bad) : ds.length = m := by
  unfold fnSem at h
  split at h
  · assumption
  · exact absurd rfl h
abbrev noXA : Addr → Addr → Nat → Prop := fun _ _ _ => False
theorem body_ok {N : List Str} {m : Nat} {body : SM} {vs : List V} {H : Hp} {Q : VK} {E : XK} (h : spF G m (fnSem m N.length body) vs H Q E) :
    sG ⟨G, noXA, none⟩ body (fun cls d _ H' => E cls d H') { nx := fun _ H' => Q .non H', rt := Q } (start N vs) H := by
  obtain ⟨hl, F, ds, ef, rl, p⟩ := h
  refine ⟨H, F, F, entry N.length ds, rep_entry N ef rl, ?_⟩
  have hm : ds.length = m := by rw [← rl.length]; exact hl
  unfold fnSem at p
  rw [if_pos hm] at p
  have grow : ∀ {σ' : L2.St} {F' H' : Hp} {env' : DEnv}, RepS ⟨G, noXA, none⟩ H F F' H' σ' env' → Grow F H F' H' := fun r => ⟨r.f0, r.bh, r.fh, r.fr⟩
  cases hb : body (entry N.length ds) with
  | nx e =>
    rw [hb] at p
    exact fun σ' F' H' r => p _ F' H' (grow r) .non
  | rt c e =>
    rw [hb] at p
    intro v σ' F' H' r rc
    cases c with
    | val d => exact p v F' H' (grow r) rc
    | own d =>
      obtain ⟨q, e1, e2, e3, e4⟩ := rc
      exact p v F' H' (grow r) ⟨q, e1, e2, e3, e4⟩
    | exc _ _ => exact rc.elim
  | bk e => rw [hb] at p; exact p.elim
  | ct e => rw [hb] at p; exact p.elim
  | bad => rw [hb] at p; exact p.elim
  | er c fs e =>
    rw [hb] at p
    exact fun dx σ' F' H' fvs r h1 h2 => p dx F' H' fvs (grow r) h1 h2
end
end DL
end

section
set_option Elab.async false
set_option linter.all false
set_option autoImplicit false
set_option maxRecDepth 100000
set_option maxHeartbeats 4000000
/-! DL5: targets, loops, comprehensions. -/
namespace DL
open PySem L2 PyProof.Rows PySem.Spec

/-! ### targets -/
abbrev TgM := D → DEnv → Option DEnv
abbrev TgMs := List D → DEnv → Option DEnv
def tgN (i : Nat) : TgM := fun d env => some (env.set i (some (.val d)))
def tgNil : TgMs := fun ds env => match ds with
  | [] => some env
  | _ => none
def tgCons (t : TgM) (r : TgMs) : TgMs := fun ds env => match ds with
  | d :: ds => (t d env).bind (r ds)
  | [] => none
def tgT (r : TgMs) : TgM := fun d env => match d with
  | .tup ds => r ds env
  | _ => none
/-- the slots but is are as they were -/
def Agree (is : List Nat) (σ σ' : L2.St) : Prop := σ'.length = σ.length ∧ ∀ j, j ∉ is → σ'[j]? = σ[j]?
theorem Agree.refl {is : List Nat} {σ : L2.St} : Agree is σ σ := ⟨rfl, fun _ _ => rfl⟩
theorem Agree.set {is : List Nat} {σ σ' : L2.St} (a : Agree is σ σ') {i : Nat} (hi : i ∈ is) (o : Option V) : Agree is σ (σ'.set i o) := ⟨by simpa using a.1, fun j hj => by
  rw [List.getElem?_set, if_neg]
  · exact a.2 j hj
  · intro z
    subst z
    exact hj hi⟩
def gG (G : Gx) (is : List Nat) (t : TgM) : TG := fun v σ H Q => ∃ B F0 F env d env', RepS G B F0 F H σ env ∧ Rep G F v d ∧ t d env = some env' ∧ ∀ σ', RepS G B F0 F H σ' env' → Agree is σ σ' → Q σ' H
def gGs (G : Gx) (is : List Nat) (t : TgMs) : TGs := fun vs σ H Q => ∃ B F0 F env ds env', RepS G B F0 F H σ env ∧ RepL G F vs ds ∧ t ds env = some env' ∧ ∀ σ', RepS G B F0 F H σ' env' → Agree is σ σ' → Q σ' H
/-- r takes n items -/
def TgLen (r : TgMs) (n : Nat) : Prop := ∀ ds env env', r ds env = some env' → ds.length = n
theorem tgLen_nil : TgLen tgNil 0 := fun ds env env' h => by
  cases ds with
  | nil => rfl
  | cons a b => cases h
theorem tgLen_cons {t : TgM} {r : TgMs} {n : Nat} (h : TgLen r n) : TgLen (tgCons t r) (n + 1) := fun ds env env' q => by
  cases ds with
  | nil => cases q
  | cons a b =>
    unfold tgCons at q
    simp only at q
    rw [Option.bind_eq_some_iff] at q
    obtain ⟨e, q1, q2⟩ := q
    rw [List.length_cons, h b e env' q2]
section
variable {G : Gx} {X : Cx} {pos : Pos} {is : List Nat}
theorem PG.imp {e : Expr} {t t' : TG} (h : PG X e t) (k : ∀ v σ H Q, t' v σ H Q → t v σ H Q) : PG X e t' := ⟨fun pins s σ H v u Q I r q => h.run pins s σ H v u Q I r (k v σ H Q q)⟩
theorem PGs.imp {e : List Expr} {t t' : TGs} (h : PGs X e t) (k : ∀ v σ H Q, t' v σ H Q → t v σ H Q) : PGs X e t' := ⟨fun pins s σ H v u Q I r q => h.run pins s σ H v u Q I r (k v σ H Q q)⟩
theorem dg_name {i : Nat} {x : Str} (hN : X.N.Nodup) (hm : i ∈ is := by decide) (hi : X.N[i]? = some x := by rfl) (hx : Loc X.env.scope x := by first | exact Or.inl rfl | exact Or.inr rfl) (hf : X.fn x = true ∨ X.env.scope.names.lookup x = some .local := by first | exact .inl rfl | exact .inr rfl) :
    PG X (.Name x pos) (gG G is (tgN i)) := by
  refine PG.imp (pg_name hN hi hx hf) fun v σ H Q ⟨B, F0, F, env, d, env', rs, rp, ht, q⟩ => ?_
  cases ht
  exact q _ (rs.setv i rp) (Agree.refl.set hm _)
theorem dgs_nil : PGs X [] (gGs G is tgNil) := by
  refine PGs.imp pgs_nil fun v σ H Q ⟨B, F0, F, env, ds, env', rs, rl, ht, q⟩ => ?_
  cases ds with
  | nil =>
    cases ht
    cases rl
    exact ⟨rfl, q σ rs Agree.refl⟩
  | cons a b => cases ht
theorem dgs_cons {e : Expr} {es : List Expr} {t : TgM} {r : TgMs} (h1 : PG X e (gG G is t)) (h2 : PGs X es (gGs G is r)) (hs : (assignEach (e :: es) X.env).map (·.2) = assign e X.env :: (assignEach es X.env).map (·.2) := by rfl) : PGs X (e :: es) (gGs G is (tgCons t r)) := by
  refine PGs.imp (pgs_cons h1 h2 hs) fun v σ H Q ⟨B, F0, F, env, ds, env', rs, rl, ht, q⟩ => ?_
  cases ds with
  | nil => cases ht
  | cons a b =>
    unfold tgCons at ht
    simp only at ht
    rw [Option.bind_eq_some_iff] at ht
    obtain ⟨e1, t1, t2⟩ := ht
    cases rl with
    | cons ra rb =>
      refine ⟨_, _, rfl, B, F0, F, env, a, e1, rs, ra, t1, fun σ1 rs1 ag1 => ?_⟩
      refine ⟨B, F0, F, e1, b, env', rs1, rb, t2, fun σ2 rs2 ag2 => q σ2 rs2 ⟨ag2.1.trans ag1.1, fun j hj => (ag2.2 j hj).trans (ag1.2 j hj)⟩⟩
theorem dg_tup {es : List Expr} {k n : Nat} {r : TgMs} (hc : X.calm = true) (h : PGs X es (gGs G is r)) (hl : TgLen r n) (hn : (assignEach es X.env).length = n := by rfl) (hst : (assignEach es X.env).findIdx? (·.1) = none := by rfl) (hK : G.K = X.K := by rfl) :
    PG X (.Tuple es k pos) (gG G is (tgT r)) := by
  refine PG.imp (pg_tup hc h hn hst) fun v σ H Q ⟨B, F0, F, env, d, env', rs, rp, ht, q⟩ => ?_
  cases d with
  | tup ds =>
    obtain ⟨a, xs, rfl, h1, s1⟩ := rep_tup rp
    refine ⟨a, xs, rfl, ?_, ?_, B, F0, F, env, ds, env', rs, s1, ht, q⟩
    · rw [← hK]
      exact ex_t rs.fh h1
    · rw [s1.length]
      exact hl ds env env' ht
  | _ => cases ht
end
def sUnp (t : TgM) (f : EM D) : SM := fun env => liftE (f env) fun d e => match t d e with
  | some e' => .nx e'
  | none => .bad
section
variable {G : Gx} {X : Cx} {W : WX} {pos : Pos}
/-- (a, b, ..) = e -/
theorem ds_unp {tg a : Expr} {fa : EM D} {t : TgM} {is : List Nat} (he : PE X a (eG G fa W)) (hg : PG X tg (gG G is t)) (hs : swapsWithSole [tg] a pos.line X.env = pure false := by rfl) (hw : swappedStores [tg] a X.env = pure none := by rfl)
    (h1 : (assignEach [tg] X.env).map (·.2) = [assign tg X.env] := by rfl) : PS X (.Assign [tg] a pos) (sG G (sUnp t fa) W) := by
  refine PS.imp (ps_asg he hg hs hw h1) fun Dn σ H h => ?_
  refine eGS h fun v d H' B F0 F env rs rp q => ?_
  split at q
  · rename_i e' ht
    exact ⟨B, F0, F, env, d, e', rs, rp, ht, fun σ' rs' _ => q σ' F H' rs'⟩
  · exact q.elim
end

/-! ### what is walked -/
structure ItRep (G : Gm) (F : Hp) (J : It) (ds : List D) : Prop where
  go : ∀ i H, Ex F H → i < ds.length → J.go i H
  stop : ∀ i H, Ex F H → ds.length ≤ i → J.stop i H
  yld : ∀ i H v H' F1, Ex F F1 → Ex F1 H → i < ds.length → J.yld i H v H' → ∃ F2 d, Grow F1 H F2 H' ∧ ds[i]? = some d ∧ Rep G F2 v d
def IPost (G : Gx) (B F0 F : Hp) (σ : L2.St) (W : WX) (R : It → Hp → Prop) : Res (List D × DEnv) → Prop
  | .ok (ds, env') => ∀ J F' H', RepS G B F0 F' H' σ env' → Ex F F' → ItRep G F' J ds → R J H'
  | .er c fs env' => ∀ dx F' H' fvs, RepS G B F0 F' H' σ env' → Ex F F' → F' dx = some (.xd fvs) → RepF G F' fvs fs → W (.ref (G.cl c)) (some dx) σ H'
  | .bad => False
def iG (G : Gx) (f : EM (List D)) (W : WX) : TI := fun σ H R => ∃ B F0 F env, RepS G B F0 F H σ env ∧ IPost G B F0 F σ W R (f env)
/-- the items of a list, a tuple, the script -/
def iSeq (a : EM D) : EM (List D) := bnd a fun d => ofO (match d with
  | .lst xs => some xs
  | .scr xs => some xs
  | _ => none)
def iTupl (a : EM D) : EM (List D) := bnd a fun d => ofO (match d with
  | .tup xs => some xs
  | _ => none)
def rangeL (lo : Int) : Nat → List D
  | 0 => []
  | n + 1 => .int lo :: rangeL (lo + 1) n
def iR1 (a : EM (List D)) : EM (List D) := bnd a fun ds => ofO (match ds with
  | [.int j] => if -4611686018427387904 ≤ j ∧ j < 4611686018427387904 then some (rangeL 0 j.toNat) else none
  | _ => none)
def iR2 (a : EM (List D)) : EM (List D) := bnd a fun ds => ofO (match ds with
  | [.int i, .int j] => if (-4611686018427387904 ≤ i ∧ i < 4611686018427387904) ∧ -4611686018427387904 ≤ j ∧ j < 4611686018427387904 then some (rangeL i (j - i).toNat) else none
  | _ => none)
def zipL : List D → List D → List D
  | x :: xs, y :: ys => .tup [x, y] :: zipL xs ys
  | _, _ => []
def iZp (a : EM (List D)) : EM (List D) := bnd a fun ds => ofO (match ds with
  | [.lst xs, .lst ys] => some (zipL xs ys)
  | [.tup xs, .tup ys] => some (zipL xs ys)
  | _ => none)
def enumL (n : Nat) : List D → List D
  | [] => []
  | x :: xs => .tup [.int n, x] :: enumL (n + 1) xs
def iEn (a : EM (List D)) : EM (List D) := bnd a fun ds => ofO (match ds with
  | [.lst xs] => some (enumL 0 xs)
  | _ => none)
theorem rangeL_len : ∀ (n : Nat) (lo : Int), (rangeL lo n).length = n
  | 0, _ => rfl
  | n + 1, lo => congrArg (· + 1) (rangeL_len n (lo + 1))
theorem rangeL_get : ∀ (n : Nat) (lo : Int) (i : Nat), i < n → (rangeL lo n)[i]? = some (.int (lo + i))
  | n + 1, lo, 0, _ => by simp [rangeL]
  | n + 1, lo, i + 1, h => by
    have := rangeL_get n (lo + 1) i (by omega)
    simp only [rangeL, List.getElem?_cons_succ, this]
    congr 2
    omega
theorem zipL_len : ∀ xs ys : List D, (zipL xs ys).length = min xs.length ys.length
  | [], ys => by simp [zipL]
  | x :: xs, [] => by simp [zipL]
  | x :: xs, y :: ys => by simp [zipL, zipL_len xs ys, Nat.add_min_add_right]
theorem zipL_get : ∀ (xs ys : List D) (i : Nat) (x y : D), xs[i]? = some x → ys[i]? = some y → (zipL xs ys)[i]? = some (.tup [x, y])
  | [], _, _, _, _, h, _ => by simp at h
  | _ :: _, [], _, _, _, _, h => by simp at h
  | a :: xs, b :: ys, 0, x, y, h1, h2 => by
    simp at h1 h2
    subst h1 h2
    rfl
  | a :: xs, b :: ys, i + 1, x, y, h1, h2 => by
    simp only [zipL, List.getElem?_cons_succ]
    exact zipL_get xs ys i x y (by simpa using h1) (by simpa using h2)
theorem enumL_len : ∀ (xs : List D) (n : Nat), (enumL n xs).length = xs.length
  | [], _ => rfl
  | _ :: xs, n => congrArg (· + 1) (enumL_len xs (n + 1))
theorem enumL_get : ∀ (xs : List D) (n i : Nat) (x : D), xs[i]? = some x → (enumL n xs)[i]? = some (.tup [.int ((n + i : Nat) : Int), x])
  | [], _, _, _, h => by simp at h
  | a :: xs, n, 0, x, h => by
    simp at h
    subst h
    rfl
  | a :: xs, n, i + 1, x, h => by
    have := enumL_get xs (n + 1) i x (by simpa using h)
    simp only [enumL, List.getElem?_cons_succ, this]
    congr 5
    omega
section
variable {G : Gm} {F : Hp}
theorem it_list {a : Addr} {vs : List V} {ds : List D} (h : SqL G.K F a vs) (r : RepL G F vs ds) : ItRep G F (Itl G.K a) ds where
  go := fun i H e hi => ⟨vs, vs[i]'(by rw [r.length]; exact hi), ex_l e h, List.getElem?_eq_getElem _⟩
  stop := fun i H e hi => ⟨vs, ex_l e h, by rw [r.length]; exact hi⟩
  yld := fun i H v H' F1 e1 e2 hi y => by
    obtain ⟨rfl, y⟩ := y
    have hv := y vs (ex_l (e1.trans e2) h)
    obtain ⟨d, h1, h2⟩ := r.getV hv
    exact ⟨F1, d, Grow.refl e2, h1, h2.mono e1⟩
theorem it_tup {a : Addr} {vs : List V} {ds : List D} (h : SqT G.K F a vs) (r : RepL G F vs ds) : ItRep G F (Itt G.K a) ds where
  go := fun i H e hi => ⟨vs, vs[i]'(by rw [r.length]; exact hi), ex_t e h, List.getElem?_eq_getElem _⟩
  stop := fun i H e hi => ⟨vs, ex_t e h, by rw [r.length]; exact hi⟩
  yld := fun i H v H' F1 e1 e2 hi y => by
    obtain ⟨rfl, y⟩ := y
    have hv := y vs (ex_t (e1.trans e2) h)
    obtain ⟨d, h1, h2⟩ := r.getV hv
    exact ⟨F1, d, Grow.refl e2, h1, h2.mono e1⟩
theorem it_range {lo : Int} {n : Nat} : ItRep G F (Itr lo n) (rangeL lo n) where
  go := fun i H e hi => by rw [rangeL_len] at hi; exact hi
  stop := fun i H e hi => by rw [rangeL_len] at hi; exact hi
  yld := fun i H v H' F1 e1 e2 hi y => by
    obtain ⟨rfl, rfl⟩ := y
    rw [rangeL_len] at hi
    exact ⟨F1, _, Grow.refl e2, rangeL_get n lo i hi, .int _⟩
theorem it_zipL {a b : Addr} {vs ws : List V} {ds es : List D} (h : SqL G.K F a vs) (r : RepL G F vs ds) (h' : SqL G.K F b ws) (r' : RepL G F ws es) : ItRep G F (Itz G.K a b) (zipL ds es) where
  go := fun i H e hi => by
    rw [zipL_len, ← r.length, ← r'.length] at hi
    exact ⟨vs, ws, vs[i]'(by omega), ws[i]'(by omega), ex_l e h, ex_l e h', List.getElem?_eq_getElem _, List.getElem?_eq_getElem _⟩
  stop := fun i H e hi => by
    rw [zipL_len, ← r.length, ← r'.length] at hi
    exact ⟨vs, ws, ex_l e h, ex_l e h', by omega⟩
  yld := fun i H v H' F1 e1 e2 hi y => by
    obtain ⟨T, x, y, rfl, hT, rfl, y1, y2⟩ := y
    obtain ⟨d, p1, p2⟩ := r.getV (y1 vs (ex_l (e1.trans e2) h))
    obtain ⟨e, p3, p4⟩ := r'.getV (y2 ws (ex_l (e1.trans e2) h'))
    exact ⟨_, _, Grow.new e2 hT, zipL_get ds es i d e p1 p3, new_tup e2 hT (.cons (p2.mono e1) (.cons (p4.mono e1) .nil))⟩
theorem it_zipT {a b : Addr} {vs ws : List V} {ds es : List D} (h : SqT G.K F a vs) (r : RepL G F vs ds) (h' : SqT G.K F b ws) (r' : RepL G F ws es) : ItRep G F (RZ.ItzT G.K a b) (zipL ds es) where
  go := fun i H e hi => by
    rw [zipL_len, ← r.length, ← r'.length] at hi
    exact ⟨vs, ws, vs[i]'(by omega), ws[i]'(by omega), ex_t e h, ex_t e h', List.getElem?_eq_getElem _, List.getElem?_eq_getElem _⟩
  stop := fun i H e hi => by
    rw [zipL_len, ← r.length, ← r'.length] at hi
    exact ⟨vs, ws, ex_t e h, ex_t e h', by omega⟩
  yld := fun i H v H' F1 e1 e2 hi y => by
    obtain ⟨T, x, y, rfl, hT, rfl, y1, y2⟩ := y
    obtain ⟨d, p1, p2⟩ := r.getV (y1 vs (ex_t (e1.trans e2) h))
    obtain ⟨e, p3, p4⟩ := r'.getV (y2 ws (ex_t (e1.trans e2) h'))
    exact ⟨_, _, Grow.new e2 hT, zipL_get ds es i d e p1 p3, new_tup e2 hT (.cons (p2.mono e1) (.cons (p4.mono e1) .nil))⟩
theorem it_enum {a : Addr} {vs : List V} {ds : List D} (h : SqL G.K F a vs) (r : RepL G F vs ds) : ItRep G F (Ite G.K a) (enumL 0 ds) where
  go := fun i H e hi => by
    rw [enumL_len] at hi
    exact ⟨vs, vs[i]'(by rw [r.length]; exact hi), ex_l e h, List.getElem?_eq_getElem _⟩
  stop := fun i H e hi => by
    rw [enumL_len] at hi
    exact ⟨vs, ex_l e h, by rw [r.length]; exact hi⟩
  yld := fun i H v H' F1 e1 e2 hi y => by
    obtain ⟨T, x, rfl, hT, rfl, y1⟩ := y
    obtain ⟨d, p1, p2⟩ := r.getV (y1 vs (ex_l (e1.trans e2) h))
    have e := enumL_get ds 0 i d p1
    rw [Nat.zero_add] at e
    exact ⟨_, _, Grow.new e2 hT, e, new_tup e2 hT (.cons (.int _) (.cons (p2.mono e1) .nil))⟩
end
section
variable {G : Gx} {X : Cx} {W : WX} {tg a b : Expr} {fa fb : EM D} {pos p tpos : Pos} {elts : List Expr} {kk : Nat}
theorem PI.imp {e : Expr} {t t' : TI} (h : PI X tg e t) (k : ∀ σ H R, t' σ H R → t σ H R) : PI X tg e t' := ⟨fun pins s σ H R I q => h.run pins s σ H R I (k σ H R q)⟩
theorem iGE {σ : L2.St} {H : Hp} {R : It → Hp → Prop} {k : D → EM (List D)} {S : VK} (h : iG G (bnd fa k) W σ H R) (kk : ∀ v d H' B F0 F env, RepS G B F0 F H' σ env → Rep G F v d → IPost G B F0 F σ W R (k d env) → S v H') : eG G fa W σ H S := by
  obtain ⟨B, F0, F, env, rs, p⟩ := h
  refine ⟨B, F0, F, env, rs, ?_⟩
  unfold bnd at p
  cases hf : fa env with
  | ok x =>
    rw [hf] at p
    intro v F' H' rs' e rp
    refine kk v x.1 H' B F0 F' x.2 rs' rp ?_
    replace p : IPost G B F0 F σ W R (k x.1 x.2) := p
    cases hk : k x.1 x.2 with
    | ok y =>
      rw [hk] at p
      exact fun J F2 H2 rs2 e2 ir => p J F2 H2 rs2 (e.trans e2) ir
    | er c fs e2 =>
      rw [hk] at p
      exact fun dx F2 H2 fvs rs2 e2 => p dx F2 H2 fvs rs2 (e.trans e2)
    | bad => rw [hk] at p; exact p
  | er c fs e => rw [hf] at p; exact p
  | bad => rw [hf] at p; exact p
theorem iGA {σ : L2.St} {H : Hp} {R : It → Hp → Prop} {fr : EM (List D)} {k : List D → EM (List D)} {S : List V → Hp → Prop} (h : iG G (bnd fr k) W σ H R) (kk : ∀ v d H' B F0 F env, RepS G B F0 F H' σ env → RepL G F v d → IPost G B F0 F σ W R (k d env) → S v H') : aG G fr W σ H S := by
  obtain ⟨B, F0, F, env, rs, p⟩ := h
  refine ⟨B, F0, F, env, rs, ?_⟩
  unfold bnd at p
  cases hf : fr env with
  | ok x =>
    rw [hf] at p
    intro v F' H' rs' e rp
    refine kk v x.1 H' B F0 F' x.2 rs' rp ?_
    replace p : IPost G B F0 F σ W R (k x.1 x.2) := p
    cases hk : k x.1 x.2 with
    | ok y =>
      rw [hk] at p
      exact fun J F2 H2 rs2 e2 ir => p J F2 H2 rs2 (e.trans e2) ir
    | er c fs e2 =>
      rw [hk] at p
      exact fun dx F2 H2 fvs rs2 e2 => p dx F2 H2 fvs rs2 (e.trans e2)
    | bad => rw [hk] at p; exact p
  | er c fs e => rw [hf] at p; exact p
  | bad => rw [hf] at p; exact p
theorem iP_ofO {B F0 F : Hp} {σ : L2.St} {env : DEnv} {R : It → Hp → Prop} {o : Option (List D)} (h : IPost G B F0 F σ W R (ofO o env)) : ∃ ds, o = some ds ∧ ∀ J F' H', RepS G B F0 F' H' σ env → Ex F F' → ItRep G F' J ds → R J H' := by
  cases o with
  | none => exact h.elim
  | some ds => exact ⟨ds, rfl, h⟩
theorem di_seq (h : PE X a (eG G fa W)) (hK : G.K = X.K := by rfl) : PI X tg a (iG G (iSeq fa) W) := by
  refine PI.imp (pi_list h) fun σ H R h => ?_
  refine iGE h fun v d H' B F0 F env rs rp q => ?_
  rw [← hK]
  cases d with
  | lst xs =>
    obtain ⟨l, vs, rfl, h1, s1⟩ := rep_lst rp
    exact ⟨l, rfl, ⟨vs, sq_of (rs.fh _ _ h1)⟩, q _ F H' rs (Ex.refl F) (it_list (sq_of h1) s1)⟩
  | scr xs =>
    obtain ⟨l, vs, rfl, h1, s1⟩ := rep_scr rp
    exact ⟨l, rfl, ⟨vs, ex_l rs.fh h1⟩, q _ F H' rs (Ex.refl F) (it_list h1 s1)⟩
  | _ => exact q.elim
theorem di_tup (h : PE X a (eG G fa W)) (hK : G.K = X.K := by rfl) : PI X tg a (iG G (iTupl fa) W) := by
  refine PI.imp (pi_tup h) fun σ H R h => ?_
  refine iGE h fun v d H' B F0 F env rs rp q => ?_
  rw [← hK]
  cases d with
  | tup xs =>
    obtain ⟨l, vs, rfl, h1, s1⟩ := rep_tup rp
    exact ⟨l, rfl, ⟨vs, ex_t rs.fh h1⟩, q _ F H' rs (Ex.refl F) (it_tup h1 s1)⟩
  | _ => exact q.elim
theorem di_range1 {fr : EM (List D)} (hm : X.mg "range" = none) (ha : PA X [a] (aG G fr W)) (hg : Gl X "range" := by rfl) (hs : starEach [a] X.env = [(false, eval a X.env)] := by rfl) : PI X tg (.Call (.Name "range" p) [a] [] pos) (iG G (iR1 fr) W) := by
  refine PI.imp (pi_range1 hg hm ha hs) fun σ H R h => ?_
  refine iGA h fun vs ds H' B F0 F env rs rl q => ?_
  obtain ⟨d, hd, q⟩ := iP_ofO q
  · split at hd
    · split at hd
      · rename_i hc
        cases hd
        obtain ⟨v, rfl, h1⟩ := repL1 rl
        exact ⟨_, by rw [rep_int h1], by omega, by omega, q _ F H' rs (Ex.refl F) it_range⟩
      · cases hd
    · cases hd
theorem di_range2 {fr : EM (List D)} (hm : X.mg "range" = none) (ha : PA X [a, b] (aG G fr W)) (hg : Gl X "range" := by rfl) (hs : starEach [a, b] X.env = [(false, eval a X.env), (false, eval b X.env)] := by rfl) (hs2 : starEach [b] X.env = [(false, eval b X.env)] := by rfl) :
    PI X tg (.Call (.Name "range" p) [a, b] [] pos) (iG G (iR2 fr) W) := by
  refine PI.imp (pi_range2 hg hm ha hs hs2) fun σ H R h => ?_
  refine iGA h fun vs ds H' B F0 F env rs rl q => ?_
  obtain ⟨d, hd, q⟩ := iP_ofO q
  · split at hd
    · split at hd
      · rename_i hc
        cases hd
        obtain ⟨v, u, rfl, h1, h2⟩ := repL2 rl
        exact ⟨_, _, by rw [rep_int h1, rep_int h2], by omega, q _ F H' rs (Ex.refl F) it_range⟩
      · cases hd
    · cases hd
theorem di_zip {fr : EM (List D)} (hm : X.mg "zip" = none) (ha : PA X [a, b] (aG G fr W)) (hg : Gl X "zip" := by rfl) (hs : starEach [a, b] X.env = (false, eval a X.env) :: starEach [b] X.env := by rfl) (hpl : (backTo pos (starEach [b] X.env)).any (·.1) = false := by rfl) (hK : G.K = X.K := by rfl) :
    PI X (.Tuple elts kk tpos) (.Call (.Name "zip" p) [a, b] [] pos) (iG G (iZp fr) W) := by
  refine PI.imp (RZ.pi_zipA hg hm ha hs hpl) fun σ H R h => ?_
  refine iGA h fun vs ds H' B F0 F env rs rl q => ?_
  rw [← hK]
  obtain ⟨d, hd, q⟩ := iP_ofO q
  · split at hd
    · cases hd
      obtain ⟨v, u, rfl, h1, h2⟩ := repL2 rl
      obtain ⟨l, ws, rfl, g1, s1⟩ := rep_lst h1
      obtain ⟨l', ws', rfl, g2, s2⟩ := rep_lst h2
      exact ⟨l, l', ws, ws', rfl, .inl ⟨sq_of (rs.fh _ _ g1), sq_of (rs.fh _ _ g2), q _ F H' rs (Ex.refl F) (it_zipL (sq_of g1) s1 (sq_of g2) s2)⟩⟩
    · cases hd
      obtain ⟨v, u, rfl, h1, h2⟩ := repL2 rl
      obtain ⟨l, ws, rfl, g1, s1⟩ := rep_tup h1
      obtain ⟨l', ws', rfl, g2, s2⟩ := rep_tup h2
      exact ⟨l, l', ws, ws', rfl, .inr ⟨ex_t rs.fh g1, ex_t rs.fh g2, q _ F H' rs (Ex.refl F) (it_zipT g1 s1 g2 s2)⟩⟩
    · cases hd
theorem di_enum {fr : EM (List D)} (hm : X.mg "enumerate" = none) (ha : PA X [a] (aG G fr W)) (hg : Gl X "enumerate" := by rfl) (hs : starEach [a] X.env = [(false, eval a X.env)] := by rfl) (hK : G.K = X.K := by rfl) :
    PI X (.Tuple elts kk tpos) (.Call (.Name "enumerate" p) [a] [] pos) (iG G (iEn fr) W) := by
  refine PI.imp (pi_enum hg hm ha hs) fun σ H R h => ?_
  refine iGA h fun vs ds H' B F0 F env rs rl q => ?_
  rw [← hK]
  obtain ⟨d, hd, q⟩ := iP_ofO q
  · split at hd
    · cases hd
      obtain ⟨v, rfl, h1⟩ := repL1 rl
      obtain ⟨l, ws, rfl, g1, s1⟩ := rep_lst h1
      exact ⟨l, ws, rfl, sq_of (rs.fh _ _ g1), q _ F H' rs (Ex.refl F) (it_enum (sq_of g1) s1)⟩
    · cases hd
end
end DL
end

section
set_option Elab.async false
set_option linter.all false
set_option autoImplicit false
set_option maxRecDepth 100000
set_option maxHeartbeats 4000000
/-! DL6: for, list comprehensions. -/
namespace DL
open PySem L2 PyProof.Rows PySem.Spec

def loopS (t : TgM) (b : SM) : List D → DEnv → SR
  | [], env => .nx env
  | d :: ds, env => match t d env with
    | none => .bad
    | some e1 => match b e1 with
      | .nx e2 => loopS t b ds e2
      | .ct e2 => loopS t b ds e2
      | .bk e2 => .nx e2
      | r => r
def sFor (f : EM (List D)) (t : TgM) (b : SM) : SM := fun env => liftE (f env) fun ds e => loopS t b ds e
section
variable {G : Gx} {X : Cx} {W : WX} {tg iter : Expr} {body : List Stmt} {pos : Pos}
theorem SPost.rebase {B F0 F1 H1 : Hp} {σ1 : L2.St} {env1 : DEnv} {Dn : Ends} (r : RepS G B F0 F1 H1 σ1 env1) : ∀ {x : SR}, SPost G B F0 W Dn x → SPost G B F1 W Dn x
  | .nx _, p => fun σ' F' H' rs => p σ' F' H' (r.back rs)
  | .bk _, p => fun σ' F' H' rs => p σ' F' H' (r.back rs)
  | .ct _, p => fun σ' F' H' rs => p σ' F' H' (r.back rs)
  | .rt _ _, p => fun v σ' F' H' rs rc => p v σ' F' H' (r.back rs) rc
  | .er _ _ _, p => fun dx σ' F' H' fvs rs h1 h2 => p dx σ' F' H' fvs (r.back rs) h1 h2
  | .bad, p => p
theorem ds_for {fi : EM (List D)} {t : TgM} {b : SM} {is : List Nat} (hp : PassesOwn (model X.prog X.w) X.A X.env X.xe) (hc : X.calm = true) (hi : PI X tg iter (iG G fi W)) (hg : PG X tg (gG G is t)) (hb : PSs X body (sG G b W)) (hs : ∀ x, foldedSetIterable iter X.env x = pure x := by intro _; rfl) :
    PS X (.For tg iter body [] pos) (sG G (sFor fi t b) W) := by
  refine PS.imp (ps_for hp hc hi hg hb hs) fun Dn σ H ⟨B, F0, F, env, rs, p⟩ => ⟨B, F0, F, env, rs, ?_⟩
  unfold sFor at p
  cases hf : fi env with
  | bad => rw [hf] at p; exact p
  | er c fs e =>
    rw [hf] at p
    exact fun dx F' H' fvs rs' _ h1 h2 => p dx σ F' H' fvs rs' h1 h2
  | ok z =>
    rw [hf] at p
    obtain ⟨ds, e1⟩ := z
    replace p : SPost G B F0 W Dn (loopS t b ds e1) := p
    intro J F1 H1 rs1 _ ir
    refine ⟨fun i m σ H => m = ds.length - i ∧ i ≤ ds.length ∧ ∃ F env, RepS G B F1 F H σ env ∧ SPost G B F1 W Dn (loopS t b (ds.drop i) env),
      ⟨_, rfl, Nat.zero_le _, F1, e1, rs1.rebase rs1.f0 (Ex.refl F1), SPost.rebase rs1 p⟩, ?_⟩
    rintro i m σ2 H2 ⟨rfl, hi2, F2, env2, rs2, q⟩
    by_cases hend : ds.length ≤ i
    · refine .inl ⟨ir.stop i H2 (rs2.f0.trans rs2.fh) hend, ?_⟩
      rw [List.drop_eq_nil_of_le hend] at q
      exact q σ2 F2 H2 rs2
    · have hlt : i < ds.length := Nat.lt_of_not_le hend
      refine .inr ⟨ir.go i H2 (rs2.f0.trans rs2.fh) hlt, fun σ H => ∃ F env, RepS G B F1 F H σ env ∧ SPost G B F1 W Dn (loopS t b (ds.drop (i + 1)) env), ?_, ?_⟩
      · rintro σ3 H3 ⟨F3, env3, rs3, q3⟩
        exact ⟨ds.length - (i + 1), by omega, rfl, hlt, F3, env3, rs3, q3⟩
      · intro x H3 y
        obtain ⟨F3, d, g, hd, rp⟩ := ir.yld i H2 x H3 F2 rs2.f0 rs2.fh hlt y
        have hdrop : ds.drop i = d :: ds.drop (i + 1) := by
          rw [List.drop_eq_getElem_cons hlt]
          rw [List.getElem?_eq_getElem hlt] at hd
          rw [Option.some.inj hd]
        rw [hdrop] at q
        unfold loopS at q
        cases ht : t d env2 with
        | none => rw [ht] at q; exact q.elim
        | some e3 =>
          rw [ht] at q
          refine ⟨B, F1, F3, env2, d, e3, rs2.grow g, rp, ht, fun σ4 rs4 _ => ⟨B, F1, F3, e3, rs4, ?_⟩⟩
          replace q : SPost G B F1 W Dn (match b e3 with
            | .nx e2 => loopS t b (ds.drop (i + 1)) e2
            | .ct e2 => loopS t b (ds.drop (i + 1)) e2
            | .bk e2 => .nx e2
            | r => r) := q
          cases hb2 : b e3 with
          | nx e4 =>
            rw [hb2] at q
            exact fun σ5 F5 H5 rs5 => ⟨F5, e4, rs5, q⟩
          | ct e4 =>
            rw [hb2] at q
            exact fun σ5 F5 H5 rs5 => ⟨F5, e4, rs5, q⟩
          | bk e4 =>
            rw [hb2] at q
            exact fun σ5 F5 H5 rs5 => q σ5 F5 H5 rs5
          | rt c e4 => rw [hb2] at q; exact q
          | er c fs e4 => rw [hb2] at q; exact q
          | bad => rw [hb2] at q; exact q
end

/-! ### list comprehensions -/
def wipeE (env : DEnv) : List Nat → DEnv
  | [] => env
  | v :: vs => (wipeE env vs).set v none
/-- e2 behind the block, the block's own names as they were in e1 (what e1 owned there is forgotten) -/
def keepV : Option (Option Cell) → Option Cell
  | some (some (.val d)) => some (.val d)
  | _ => none
def restE (e1 e2 : DEnv) : List Nat → DEnv
  | [] => e2
  | v :: vs => (restE e1 e2 vs).set v (keepV e1[v]?)
def lcLoop (t : TgM) (vs : List Nat) (c : EM Bool) (f : EM D) : List D → DEnv → List D → Res (List D × DEnv)
  | [], env, acc => .ok (acc, env)
  | d :: ds, env, acc => match t d env with
    | none => .bad
    | some e1 => match c e1 with
      | .ok (true, e2) => (match f e2 with
        | .ok (y, e3) => if acc.length < 1000000 then lcLoop t vs c f ds (wipeE e3 vs) (acc ++ [y]) else .bad
        | _ => .bad)
      | .ok (false, e2) => lcLoop t vs c f ds (wipeE e2 vs) acc
      | _ => .bad
def eLc (fi : EM (List D)) (vs : List Nat) (t : TgM) (c : EM Bool) (f : EM D) : EM D := bnd fi fun ds e1 => match lcLoop t vs c f ds (wipeE e1 vs) [] with
  | .ok (acc, e2) => .ok (.lst acc, restE e1 e2 vs)
  | _ => .bad
def tYs : EM Bool := fun env => .ok (true, env)
section
variable {G : Gx} {B F0 F H : Hp} {σ : L2.St} {env : DEnv}
theorem RepS.wipe (r : RepS G B F0 F H σ env) : ∀ vs : List Nat, RepS G B F0 F H (L2.wipe σ vs) (wipeE env vs)
  | [] => r
  | v :: vs => (r.wipe vs).forget none v
theorem wipe_agree {σ σ' : L2.St} {vs : List Nat} (a : Agree vs σ σ') : L2.wipe σ' vs = L2.wipe σ vs := by
  have key : ∀ (us : List Nat) (j : Nat), j ∈ us → ∀ τ : L2.St, (L2.wipe τ us)[j]? = (τ[j]?).map fun _ => none := by
    intro us
    induction us with
    | nil => intro j hj; cases hj
    | cons u us ih =>
      intro j hj τ
      unfold L2.wipe
      rw [List.getElem?_set]
      by_cases e : u = j
      · subst e
        rw [if_pos rfl, wipe_length]
        by_cases hl : u < τ.length
        · rw [if_pos hl, List.getElem?_eq_getElem hl]
          rfl
        · rw [if_neg hl, List.getElem?_eq_none (Nat.le_of_not_lt hl)]
          rfl
      · rw [if_neg e]
        rcases List.mem_cons.mp hj with z | z
        · exact absurd z.symm e
        · exact ih j z τ
  have key2 : ∀ (us : List Nat) (j : Nat), j ∉ us → ∀ τ : L2.St, (L2.wipe τ us)[j]? = τ[j]? := by
    intro us
    induction us with
    | nil => intro j _ τ; rfl
    | cons u us ih =>
      intro j hj τ
      unfold L2.wipe
      rw [List.getElem?_set, if_neg]
      · exact ih j (fun z => hj (List.mem_cons_of_mem _ z)) τ
      · intro z
        subst z
        exact hj List.mem_cons_self
  apply List.ext_getElem?
  intro j
  by_cases hj : j ∈ vs
  · rw [key vs j hj, key vs j hj]
    by_cases hl : j < σ.length
    · rw [List.getElem?_eq_getElem hl, List.getElem?_eq_getElem (by rw [a.1]; exact hl)]
      rfl
    · rw [List.getElem?_eq_none (Nat.le_of_not_lt hl), List.getElem?_eq_none (by rw [a.1]; exact Nat.le_of_not_lt hl)]
  · rw [key2 vs j hj, key2 vs j hj]
    exact a.2 j hj
theorem wipe_wipe (τ : L2.St) (us : List Nat) : L2.wipe (L2.wipe τ us) us = L2.wipe τ us := by
  have h : Agree us τ (L2.wipe τ us) := ⟨wipe_length τ us, fun j hj => by
    induction us with
    | nil => rfl
    | cons u us ih =>
      unfold L2.wipe
      rw [List.getElem?_set, if_neg]
      · exact ih fun z => hj (List.mem_cons_of_mem _ z)
      · intro z
        subst z
        exact hj List.mem_cons_self⟩
  exact wipe_agree h
theorem rest_own {e1 e2 : DEnv} {j : Nat} {d : D} : ∀ {vs : List Nat}, (restE e1 e2 vs)[j]? = some (some (.own d)) → e2[j]? = some (some (.own d)) ∧ j ∉ vs
  | [], h => ⟨h, fun z => nomatch z⟩
  | v :: vs, h => by
    unfold restE at h
    rw [List.getElem?_set] at h
    by_cases hj : v = j
    · subst hj
      rw [if_pos rfl] at h
      split at h
      · have h' := Option.some.inj h
        unfold keepV at h'
        split at h' <;> cases h'
      · cases h
    · rw [if_neg hj] at h
      obtain ⟨h1, h2⟩ := rest_own (vs := vs) h
      exact ⟨h1, fun z => (List.mem_cons.mp z).elim (fun e => hj e.symm) h2⟩
theorem wipe_get {j : Nat} {τ : L2.St} : ∀ {us : List Nat}, j ∉ us → (L2.wipe τ us)[j]? = τ[j]?
  | [], _ => rfl
  | u :: us, hj => by
    unfold L2.wipe
    rw [List.getElem?_set, if_neg]
    · exact wipe_get fun z => hj (List.mem_cons_of_mem _ z)
    · intro z
      subst z
      exact hj List.mem_cons_self
/-- behind the block -/
theorem RepS.unwipe {F1 H1 : Hp} {e1 : DEnv} (r1 : RepS G B F0 F1 H1 σ e1) (ex : Ex F1 F) : ∀ {vs : List Nat} {e2 : DEnv}, RepS G B F0 F H (L2.wipe σ vs) e2 → RepS G B F0 F H σ (restE e1 e2 vs) := by
  intro vs
  induction vs with
  | nil => exact fun h => h
  | cons v vs ih =>
    intro e2 h
    have h2 : RepS G B F0 F H (L2.wipe σ vs) (e2.set v none) := by
      have q := h.forget ((L2.wipe σ vs)[v]?.getD none) v
      have e : ((L2.wipe σ (v :: vs)).set v ((L2.wipe σ vs)[v]?.getD none)) = L2.wipe σ vs := by
        show ((L2.wipe σ vs).set v none).set v _ = _
        rw [List.set_set]
        apply List.ext_getElem?
        intro j
        rw [List.getElem?_set]
        by_cases hj : v = j
        · subst hj
          rw [if_pos rfl]
          by_cases hl : v < (L2.wipe σ vs).length
          · rw [if_pos hl, List.getElem?_eq_getElem hl]
            rfl
          · rw [if_neg hl, List.getElem?_eq_none (Nat.le_of_not_lt hl)]
        · rw [if_neg hj]
      rw [e] at q
      exact q
    have h3 := ih h2
    have same : ∀ (us : List Nat) (c : Option Cell), (restE e1 (e2.set v none) us).set v c = (restE e1 e2 us).set v c := by
      intro us c
      induction us with
      | nil => exact List.set_set ..
      | cons u us ihu =>
        show ((restE e1 (e2.set v none) us).set u _).set v c = ((restE e1 e2 us).set u _).set v c
        by_cases huv : u = v
        · subst huv
          rw [List.set_set, List.set_set]
          exact ihu
        · rw [List.set_comm _ _ huv, List.set_comm _ _ huv, ihu]
    show RepS G B F0 F H σ ((restE e1 e2 vs).set v (keepV e1[v]?))
    rw [← same]
    cases hk : keepV e1[v]? with
    | none =>
      have q := h3.forget (σ[v]?.getD none) v
      have e : σ.set v (σ[v]?.getD none) = σ := by
        apply List.ext_getElem?
        intro j
        rw [List.getElem?_set]
        by_cases hj : v = j
        · subst hj
          rw [if_pos rfl]
          by_cases hl : v < σ.length
          · rw [if_pos hl, List.getElem?_eq_getElem hl]
            rfl
          · rw [if_neg hl, List.getElem?_eq_none (Nat.le_of_not_lt hl)]
        · rw [if_neg hj]
      rw [e] at q
      exact q
    | some c =>
      unfold keepV at hk
      split at hk
      · rename_i d hd
        cases hk
        obtain ⟨x, g1, g2⟩ := r1.val v d hd
        have q := h3.setv v (g2.mono ex)
        have e : σ.set v (some x) = σ := by
          apply List.ext_getElem?
          intro j
          rw [List.getElem?_set]
          by_cases hj : v = j
          · subst hj
            rw [if_pos rfl, if_pos (List.getElem?_eq_some_iff.mp g1).1, g1]
          · rw [if_neg hj]
        rw [e] at q
        exact q
      · cases hk
end
abbrev W0 : WX := fun _ _ _ _ => False
section
variable {G : Gx} {X : Cx} {W : WX} {tg iter elt : Expr} {ifs : List Expr} {scope : Scope} {own : List (Str × Nat)} {pos : Pos}
theorem PTs.imp {e : List Expr} {t t' : TT} (h : PTs X e t) (k : ∀ σ H Q, t' σ H Q → t σ H Q) : PTs X e t' := ⟨fun pins s σ H Q I q => h.run pins s σ H Q I (k σ H Q q)⟩
theorem dts_nil : PTs X [] (tG G tYs W) := PTs.imp pts_nil fun σ H Q ⟨B, F0, F, env, rs, p⟩ => p F H rs (Ex.refl F)
theorem dts_one {c : Expr} {tc : EM Bool} (h : PT X c (tG G tc W)) : PTs X [c] (tG G tc W) := pts_one h
/-- the reading of a comprehension -/
theorem fG_lc {fi : EM (List D)} {vs : List Nat} {t : TgM} {tc : EM Bool} {f : EM D} {σ : L2.St} {H : Hp} {Q : VK} (h : fG G (eLc fi vs t tc f) W σ H Q) : tLc (iG G fi W) (gG G vs t) (tG G tc W0) (eG G f W0) vs σ H Q := by
  obtain ⟨B, F0, F, env, rs, p⟩ := h
  refine ⟨B, F0, F, env, rs, ?_⟩
  unfold eLc bnd at p
  cases hf : fi env with
  | bad => rw [hf] at p; exact p
  | er c fs e => rw [hf] at p; exact p
  | ok z =>
    rw [hf] at p
    obtain ⟨ds, e1⟩ := z
    intro J F1 H1 rs1 ex1 ir Da hDa
    cases hl : lcLoop t vs tc f ds (wipeE e1 vs) [] with
    | bad =>
      simp only [Res.bind, hl] at p
      exact p.elim
    | er c fs e =>
      simp only [Res.bind, hl] at p
      exact p.elim
    | ok z2 =>
      obtain ⟨accF, e2⟩ := z2
      simp only [Res.bind, hl] at p
      have hF1 : F1 Da = none := rs1.fh.back hDa
      have hB1 : B Da = none := rs1.bh.back hDa
      refine ⟨fun i m H => m = ds.length - i ∧ i ≤ ds.length ∧ ∃ F env acc as, H Da = some (.lst as) ∧ RepS G (upd B Da (.lst as)) F1 F H (L2.wipe σ vs) env ∧ RepL G F as acc ∧ lcLoop t vs tc f (ds.drop i) env acc = .ok (accF, e2), ⟨_, rfl, Nat.zero_le _, F1, wipeE e1 vs, [], [], upd_same, ?_, .nil, hl⟩, ?_⟩
      · have r2 := (rs1.rebase rs1.f0 (Ex.refl F1)).grow (Grow.newH (o := .lst []) rs1.fh hDa)
        exact (r2.addB upd_same hF1 (rs1.apartNew hDa)).wipe vs
      · rintro i m H2 ⟨rfl, hi2, F2, env2, acc, as, hacc, rs2, rl, q⟩
        have hF2 : F2 Da = none := rs2.keptF upd_same hF1
        by_cases hend : ds.length ≤ i
        · refine .inl ⟨ir.stop i H2 (rs2.f0.trans rs2.fh) hend, ?_⟩
          rw [List.drop_eq_nil_of_le hend] at q
          cases q
          have r3 := rs1.back ((rs2.dropB hB1))
          have r4 := rs1.unwipe rs2.f0 r3
          have ap : Apart σ (restE e1 e2 vs) Da := fun j d z zz => by
            obtain ⟨z1, z2⟩ := rest_own z
            exact rs2.keptA upd_same j d z1 (by rw [wipe_get z2]; exact zz)
          exact p Da F2 H2 r4 (ex1.trans rs2.f0) ⟨as, hacc, rl⟩ hF2 hB1 ap
        · have hlt : i < ds.length := Nat.lt_of_not_le hend
          refine .inr ⟨ir.go i H2 (rs2.f0.trans rs2.fh) hlt, fun H => ∃ F env acc as, H Da = some (.lst as) ∧ RepS G (upd B Da (.lst as)) F1 F H (L2.wipe σ vs) env ∧ RepL G F as acc ∧ lcLoop t vs tc f (ds.drop (i + 1)) env acc = .ok (accF, e2), ?_, ?_⟩
          · rintro H3 ⟨F3, env3, acc3, as3, a1, a2, a3, a4⟩
            exact ⟨ds.length - (i + 1), by omega, rfl, hlt, F3, env3, acc3, as3, a1, a2, a3, a4⟩
          · intro x H3 y
            obtain ⟨F3, d, g, hd, rp⟩ := ir.yld i H2 x H3 F2 rs2.f0 rs2.fh hlt y
            have hdrop : ds.drop i = d :: ds.drop (i + 1) := by
              rw [List.drop_eq_getElem_cons hlt]
              rw [List.getElem?_eq_getElem hlt] at hd
              rw [Option.some.inj hd]
            rw [hdrop] at q
            unfold lcLoop at q
            cases ht : t d env2 with
            | none => rw [ht] at q; cases q
            | some e3 =>
              rw [ht] at q
              simp only at q
              refine ⟨_, F1, F3, env2, d, e3, rs2.grow g, rp, ht, fun σ4 rs4 ag => ⟨?_, ?_⟩⟩
              · rw [wipe_agree ag]
                exact wipe_wipe σ vs
              · have hw : L2.wipe σ4 vs = L2.wipe σ vs := by
                  rw [wipe_agree ag]
                  exact wipe_wipe σ vs
                cases hc : tc e3 with
                | bad => rw [hc] at q; cases q
                | er c fs e => rw [hc] at q; cases q
                | ok z3 =>
                  rw [hc] at q
                  obtain ⟨b, e4⟩ := z3
                  refine ⟨_, F1, F3, e3, rs4, ?_⟩
                  rw [hc]
                  intro F5 H5 rs5 ex5
                  cases b with
                  | false =>
                    simp only at q
                    rw [if_neg Bool.false_ne_true]
                    have r6 := rs5.wipe vs
                    rw [hw] at r6
                    exact ⟨F5, _, acc, as, rs5.bh _ _ upd_same, r6, rl.mono (g.f.trans ex5), q⟩
                  | true =>
                    simp only at q
                    rw [if_pos rfl]
                    refine ⟨_, F1, F5, e4, rs5, ?_⟩
                    cases he : f e4 with
                    | bad => rw [he] at q; cases q
                    | er c fs e => rw [he] at q; cases q
                    | ok z4 =>
                      rw [he] at q
                      obtain ⟨yd, e5⟩ := z4
                      simp only at q
                      split at q
                      · rename_i hlen
                        intro yv F6 H6 rs6 ex6 rpy
                        have hF6 : F6 Da = none := rs6.keptF upd_same hF1
                        have rl6 := rl.mono ((g.f.trans ex5).trans ex6)
                        refine ⟨as, rs6.bh _ _ upd_same, lt_line (by rw [rl.length]; omega), F6, _, acc ++ [yd], as ++ [yv], upd_same, ?_, rl6.append (.cons rpy .nil), q⟩
                        have r7 := (rs6.chB (o' := .lst (as ++ [yv])) hF6).wipe vs
                        rw [hw] at r7
                        exact r7
                      · cases q
end
end DL
end

section
set_option Elab.async false
set_option linter.all false
set_option autoImplicit false
set_option maxRecDepth 100000
set_option maxHeartbeats 4000000
/-! DL7: comprehensions as rules; two clauses. -/
namespace DL
open PySem L2 PyProof.Rows PySem.Spec

section
variable {G : Gx} {X : Cx} {W : WX} {tg iter elt : Expr} {ifs : List Expr} {scope : Scope} {own : List (Str × Nat)} {pos spos py : Pos} {fi : EM (List D)} {t : TgM} {tc : EM Bool} {f : EM D}
theorem df_lc (hc : X.calm = true) (hN : X.N.Nodup) (ok : BlkOk X.N X.env.scope scope own) (hi : PI X tg iter (iG G fi W))
    (hg : ∀ (s : Shared) (H : Hp) (C : Addr) (cl : List (Str × Addr)) (fp : List Addr), PG (X.blk s H scope (compEnvC scope cl C X.env) fp) tg (gG G (own.map (·.2)) t))
    (ht : ∀ (s : Shared) (H : Hp) (C : Addr) (cl : List (Str × Addr)) (fp : List Addr), PTs (X.blk s H scope (compEnvC scope cl C X.env) fp) ifs (tG G tc W0))
    (he : ∀ (s : Shared) (H : Hp) (C : Addr) (cl : List (Str × Addr)) (fp : List Addr), PE (X.blk s H scope (compEnvC scope cl C X.env) fp) elt (eG G f W0)) (hs : ∀ x, foldedSetIterable iter X.env x = pure x := by intro _; rfl) :
    PE X (.ListComp elt [⟨tg, iter, ifs, 0⟩] scope pos) (fG G (eLc fi (own.map (·.2)) t tc f) W) := PE.imp (pe_lc hc hN hi ok hg ht he hs) fun _ _ _ h => fG_lc h
/-- y = [..], y a plain local, on one line -/
theorem ds_setLc {i : Nat} {y : Str} (hc : X.calm = true) (hN : X.N.Nodup) (ok : BlkOk X.N X.env.scope scope own) (hi : PI X tg iter (iG G fi W))
    (hg : ∀ (s : Shared) (H : Hp) (C : Addr) (cl : List (Str × Addr)) (fp : List Addr), PG (X.blk s H scope (compEnvC scope cl C X.env) fp) tg (gG G (own.map (·.2)) t))
    (ht : ∀ (s : Shared) (H : Hp) (C : Addr) (cl : List (Str × Addr)) (fp : List Addr), PTs (X.blk s H scope (compEnvC scope cl C X.env) fp) ifs (tG G tc W0))
    (he : ∀ (s : Shared) (H : Hp) (C : Addr) (cl : List (Str × Addr)) (fp : List Addr), PE (X.blk s H scope (compEnvC scope cl C X.env) fp) elt (eG G f W0))
    (hsw : swapsWith (.ListComp elt [⟨tg, iter, ifs, 0⟩] scope pos) (some (.Name y py)) spos.line X.env = pure true) (hy : X.N[i]? = some y := by rfl) (hyl : X.env.scope.names.lookup y = some .local := by rfl) (hs : ∀ x, foldedSetIterable iter X.env x = pure x := by intro _; rfl) (hp : ∀ q, G.bp ≠ some (i, q) := by intro q h; cases h) :
    PS X (.Assign [.Name y py] (.ListComp elt [⟨tg, iter, ifs, 0⟩] scope pos) spos) (sG G (sSetO i (eLc fi (own.map (·.2)) t tc f)) W) := by
  refine PS.imp (ps_setLc hc hN hy hyl hsw hi ok hg ht he hs) fun Dn σ H h => ?_
  exact fG_lc (fGS h fun p d H' B F0 F env rs ro h1 h2 h3 q => q _ F H' (rs.seto i ro h1 h2 h3 fun z hz => (hp z hz).elim))
end

/-! ### two clauses -/
def lcIn (t : TgM) (vs : List Nat) (c : EM Bool) (f : EM D) : List D → DEnv → List D → Res (List D × DEnv) := lcLoop t vs c f
def lc2Loop (t : TgM) (vs : List Nat) (c : EM Bool) (fi1 : EM (List D)) (t1 : TgM) (vs1 : List Nat) (c1 : EM Bool) (f : EM D) : List D → DEnv → List D → Res (List D × DEnv)
  | [], env, acc => .ok (acc, env)
  | d :: ds, env, acc => match t d env with
    | none => .bad
    | some e1 => match c e1 with
      | .ok (true, e2) => (match fi1 e2 with
        | .ok (ds1, e3) => (match lcLoop t1 vs1 c1 f ds1 (wipeE e3 vs1) acc with
          | .ok (acc', e4) => lc2Loop t vs c fi1 t1 vs1 c1 f ds (wipeE e4 vs) acc'
          | _ => .bad)
        | _ => .bad)
      | .ok (false, e2) => lc2Loop t vs c fi1 t1 vs1 c1 f ds (wipeE e2 vs) acc
      | _ => .bad
def eLc2 (fi : EM (List D)) (vs : List Nat) (t : TgM) (c : EM Bool) (fi1 : EM (List D)) (vs1 : List Nat) (t1 : TgM) (c1 : EM Bool) (f : EM D) : EM D := bnd fi fun ds e1 => match lc2Loop t vs c fi1 t1 vs1 c1 f ds (wipeE e1 vs) [] with
  | .ok (acc, e2) => .ok (.lst acc, restE e1 e2 vs)
  | _ => .bad
section
variable {G : Gx} {X : Cx} {W : WX}
theorem wipe_sub {τ : L2.St} {us vs : List Nat} (h : ∀ i ∈ us, i ∈ vs) : L2.wipe (L2.wipe τ us) vs = L2.wipe τ vs := by
  refine wipe_agree ⟨wipe_length τ us, fun j hj => wipe_get fun z => hj (h j z)⟩
theorem fG_lc2 {fi fi1 : EM (List D)} {vs vs1 : List Nat} {t t1 : TgM} {tc tc1 : EM Bool} {f : EM D} {σ : L2.St} {H : Hp} {Q : VK} (hsub : ∀ i ∈ vs1, i ∈ vs) (h : fG G (eLc2 fi vs t tc fi1 vs1 t1 tc1 f) W σ H Q) :
    tLc2 (iG G fi W) (gG G vs t) (tG G tc W0) (iG G fi1 W0) (gG G vs1 t1) (tG G tc1 W0) (eG G f W0) vs vs1 σ H Q := by
  obtain ⟨B, F0, F, env, rs, p⟩ := h
  refine ⟨B, F0, F, env, rs, ?_⟩
  unfold eLc2 bnd at p
  cases hf : fi env with
  | bad => rw [hf] at p; exact p
  | er c fs e => rw [hf] at p; exact p
  | ok z =>
    rw [hf] at p
    obtain ⟨ds, e1⟩ := z
    intro J F1 H1 rs1 ex1 ir Da hDa
    cases hl : lc2Loop t vs tc fi1 t1 vs1 tc1 f ds (wipeE e1 vs) [] with
    | bad =>
      simp only [Res.bind, hl] at p
      exact p.elim
    | er c fs e =>
      simp only [Res.bind, hl] at p
      exact p.elim
    | ok z2 =>
      obtain ⟨accF, e2⟩ := z2
      simp only [Res.bind, hl] at p
      have hF1 : F1 Da = none := rs1.fh.back hDa
      have hB1 : B Da = none := rs1.bh.back hDa
      refine ⟨fun i m H => m = ds.length - i ∧ i ≤ ds.length ∧ ∃ F env acc as, H Da = some (.lst as) ∧ RepS G (upd B Da (.lst as)) F1 F H (L2.wipe σ vs) env ∧ RepL G F as acc ∧ lc2Loop t vs tc fi1 t1 vs1 tc1 f (ds.drop i) env acc = .ok (accF, e2), ⟨_, rfl, Nat.zero_le _, F1, wipeE e1 vs, [], [], upd_same, ?_, .nil, hl⟩, ?_⟩
      · have r2 := (rs1.rebase rs1.f0 (Ex.refl F1)).grow (Grow.newH (o := .lst []) rs1.fh hDa)
        exact (r2.addB upd_same hF1 (rs1.apartNew hDa)).wipe vs
      · rintro i m H2 ⟨rfl, hi2, F2, env2, acc, as, hacc, rs2, rl, q⟩
        have hF2 : F2 Da = none := rs2.keptF upd_same hF1
        by_cases hend : ds.length ≤ i
        · refine .inl ⟨ir.stop i H2 (rs2.f0.trans rs2.fh) hend, ?_⟩
          rw [List.drop_eq_nil_of_le hend] at q
          cases q
          have r3 := rs1.back ((rs2.dropB hB1))
          have r4 := rs1.unwipe rs2.f0 r3
          have ap : Apart σ (restE e1 e2 vs) Da := fun j d z zz => by
            obtain ⟨z1, z2⟩ := rest_own z
            exact rs2.keptA upd_same j d z1 (by rw [wipe_get z2]; exact zz)
          exact p Da F2 H2 r4 (ex1.trans rs2.f0) ⟨as, hacc, rl⟩ hF2 hB1 ap
        · have hlt : i < ds.length := Nat.lt_of_not_le hend
          refine .inr ⟨ir.go i H2 (rs2.f0.trans rs2.fh) hlt, fun H => ∃ F env acc as, H Da = some (.lst as) ∧ RepS G (upd B Da (.lst as)) F1 F H (L2.wipe σ vs) env ∧ RepL G F as acc ∧ lc2Loop t vs tc fi1 t1 vs1 tc1 f (ds.drop (i + 1)) env acc = .ok (accF, e2), ?_, ?_⟩
          · rintro H3 ⟨F3, env3, acc3, as3, a1, a2, a3, a4⟩
            exact ⟨ds.length - (i + 1), by omega, rfl, hlt, F3, env3, acc3, as3, a1, a2, a3, a4⟩
          · intro x H3 y
            obtain ⟨F3, d, g, hd, rp⟩ := ir.yld i H2 x H3 F2 rs2.f0 rs2.fh hlt y
            have hdrop : ds.drop i = d :: ds.drop (i + 1) := by
              rw [List.drop_eq_getElem_cons hlt]
              rw [List.getElem?_eq_getElem hlt] at hd
              rw [Option.some.inj hd]
            rw [hdrop] at q
            unfold lc2Loop at q
            cases ht : t d env2 with
            | none => rw [ht] at q; cases q
            | some e3 =>
              rw [ht] at q
              simp only at q
              refine ⟨_, F1, F3, env2, d, e3, rs2.grow g, rp, ht, fun σ4 rs4 ag => ⟨?_, ?_⟩⟩
              · rw [wipe_agree ag]
                exact wipe_wipe σ vs
              · have hw : L2.wipe σ4 vs = L2.wipe σ vs := by
                  rw [wipe_agree ag]
                  exact wipe_wipe σ vs
                cases hc : tc e3 with
                | bad => rw [hc] at q; cases q
                | er c fs e => rw [hc] at q; cases q
                | ok z3 =>
                  rw [hc] at q
                  obtain ⟨b, e4⟩ := z3
                  refine ⟨_, F1, F3, e3, rs4, ?_⟩
                  rw [hc]
                  intro F5 H5 rs5 ex5
                  cases b with
                  | false =>
                    simp only at q
                    rw [if_neg Bool.false_ne_true]
                    have r6 := rs5.wipe vs
                    rw [hw] at r6
                    exact ⟨F5, _, acc, as, rs5.bh _ _ upd_same, r6, rl.mono (g.f.trans ex5), q⟩
                  | true =>
                    simp only at q
                    rw [if_pos rfl]
                    refine ⟨_, F1, F5, e4, rs5, ?_⟩
                    cases hfi : fi1 e4 with
                    | bad => rw [hfi] at q; cases q
                    | er c fs e => rw [hfi] at q; cases q
                    | ok z4 =>
                      rw [hfi] at q
                      obtain ⟨ds1, e5⟩ := z4
                      simp only at q
                      intro J1 F6 H6 rs6 ex6 ir1
                      cases hin : lcLoop t1 vs1 tc1 f ds1 (wipeE e5 vs1) acc with
                      | bad => rw [hin] at q; cases q
                      | er c fs e => rw [hin] at q; cases q
                      | ok z5 =>
                        rw [hin] at q
                        obtain ⟨acc', e6⟩ := z5
                        simp only at q
                        refine ⟨fun j k H => k = ds1.length - j ∧ j ≤ ds1.length ∧ ∃ F env accj as, H Da = some (.lst as) ∧ RepS G (upd B Da (.lst as)) F1 F H (L2.wipe σ4 vs1) env ∧ Ex F6 F ∧ RepL G F as accj ∧ lcLoop t1 vs1 tc1 f (ds1.drop j) env accj = .ok (acc', e6),
                          ⟨_, rfl, Nat.zero_le _, F6, wipeE e5 vs1, acc, as, rs6.bh _ _ upd_same, rs6.wipe vs1, Ex.refl F6, rl.mono ((g.f.trans ex5).trans ex6), hin⟩, ?_⟩
                        rintro j k H7 ⟨rfl, hj, F7, env7, acc7, as7, hacc7, rs7, ex7, rl7, q7⟩
                        have hF7 : F7 Da = none := rs7.keptF upd_same hF1
                        by_cases hend1 : ds1.length ≤ j
                        · refine .inl ⟨ir1.stop j H7 (ex7.trans rs7.fh) hend1, ?_⟩
                          rw [List.drop_eq_nil_of_le hend1] at q7
                          cases q7
                          have r8 := rs7.wipe vs
                          rw [wipe_sub hsub, hw] at r8
                          exact ⟨F7, _, acc', as7, hacc7, r8, rl7, q⟩
                        · have hlt1 : j < ds1.length := Nat.lt_of_not_le hend1
                          refine .inr ⟨ir1.go j H7 (ex7.trans rs7.fh) hlt1, fun H => ∃ F env accj as, H Da = some (.lst as) ∧ RepS G (upd B Da (.lst as)) F1 F H (L2.wipe σ4 vs1) env ∧ Ex F6 F ∧ RepL G F as accj ∧ lcLoop t1 vs1 tc1 f (ds1.drop (j + 1)) env accj = .ok (acc', e6), ?_, ?_⟩
                          · rintro H8 ⟨F8, env8, acc8, as8, a1, a2, a3, a4, a5⟩
                            exact ⟨ds1.length - (j + 1), by omega, rfl, hlt1, F8, env8, acc8, as8, a1, a2, a3, a4, a5⟩
                          · intro x1 H8 y1
                            obtain ⟨F8, d1, g1, hd1, rp1⟩ := ir1.yld j H7 x1 H8 F7 ex7 rs7.fh hlt1 y1
                            have hdrop1 : ds1.drop j = d1 :: ds1.drop (j + 1) := by
                              rw [List.drop_eq_getElem_cons hlt1]
                              rw [List.getElem?_eq_getElem hlt1] at hd1
                              rw [Option.some.inj hd1]
                            rw [hdrop1] at q7
                            unfold lcLoop at q7
                            cases ht1 : t1 d1 env7 with
                            | none => rw [ht1] at q7; cases q7
                            | some e8 =>
                              rw [ht1] at q7
                              simp only at q7
                              refine ⟨_, F1, F8, env7, d1, e8, rs7.grow g1, rp1, ht1, fun σ9 rs9 ag9 => ⟨?_, ?_⟩⟩
                              · rw [wipe_agree ag9]
                                exact wipe_wipe σ4 vs1
                              · have hw9 : L2.wipe σ9 vs1 = L2.wipe σ4 vs1 := by
                                  rw [wipe_agree ag9]
                                  exact wipe_wipe σ4 vs1
                                cases hc1 : tc1 e8 with
                                | bad => rw [hc1] at q7; cases q7
                                | er c fs e => rw [hc1] at q7; cases q7
                                | ok z6 =>
                                  rw [hc1] at q7
                                  obtain ⟨b1, e9⟩ := z6
                                  refine ⟨_, F1, F8, e8, rs9, ?_⟩
                                  rw [hc1]
                                  intro FA HA rsA exA
                                  cases b1 with
                                  | false =>
                                    simp only at q7
                                    rw [if_neg Bool.false_ne_true]
                                    have rB := rsA.wipe vs1
                                    rw [hw9] at rB
                                    exact ⟨FA, _, acc7, as7, rsA.bh _ _ upd_same, rB, ex7.trans (g1.f.trans exA), rl7.mono (g1.f.trans exA), q7⟩
                                  | true =>
                                    simp only at q7
                                    rw [if_pos rfl]
                                    refine ⟨_, F1, FA, e9, rsA, ?_⟩
                                    cases he : f e9 with
                                    | bad => rw [he] at q7; cases q7
                                    | er c fs e => rw [he] at q7; cases q7
                                    | ok z7 =>
                                      rw [he] at q7
                                      obtain ⟨yd, eA⟩ := z7
                                      simp only at q7
                                      split at q7
                                      · rename_i hlen
                                        intro yv FB HB rsB exB rpy
                                        have hFB : FB Da = none := rsB.keptF upd_same hF1
                                        have rlB := rl7.mono ((g1.f.trans exA).trans exB)
                                        refine ⟨as7, rsB.bh _ _ upd_same, lt_line (by rw [rl7.length]; omega), FB, _, acc7 ++ [yd], as7 ++ [yv], upd_same, ?_, ex7.trans ((g1.f.trans exA).trans exB), rlB.append (.cons rpy .nil), q7⟩
                                        have rC := (rsB.chB (o' := .lst (as7 ++ [yv])) hFB).wipe vs1
                                        rw [hw9] at rC
                                        exact rC
                                      · cases q7
end
section
variable {G : Gx} {X : Cx} {W : WX} {tg iter elt tg1 iter1 : Expr} {ifs ifs1 : List Expr} {scope : Scope} {own : List (Str × Nat)} {vs1 : List Nat} {pos spos py : Pos} {fi fi1 : EM (List D)} {t t1 : TgM} {tc tc1 : EM Bool} {f : EM D}
theorem df_lc2 (hc : X.calm = true) (hN : X.N.Nodup) (ok : BlkOk X.N X.env.scope scope own) (hv : ∀ i ∈ vs1, i ∈ own.map (·.2)) (hi : PI X tg iter (iG G fi W))
    (hg : ∀ (s : Shared) (H : Hp) (C : Addr) (cl : List (Str × Addr)) (fp : List Addr), PG (X.blk s H scope (compEnvC scope cl C X.env) fp) tg (gG G (own.map (·.2)) t))
    (ht : ∀ (s : Shared) (H : Hp) (C : Addr) (cl : List (Str × Addr)) (fp : List Addr), PTs (X.blk s H scope (compEnvC scope cl C X.env) fp) ifs (tG G tc W0))
    (hi1 : ∀ (s : Shared) (H : Hp) (C : Addr) (cl : List (Str × Addr)) (fp : List Addr), PI (X.blk s H scope (compEnvC scope cl C X.env) fp) tg1 iter1 (iG G fi1 W0))
    (hg1 : ∀ (s : Shared) (H : Hp) (C : Addr) (cl : List (Str × Addr)) (fp : List Addr), PG (X.blk s H scope (compEnvC scope cl C X.env) fp) tg1 (gG G vs1 t1))
    (ht1 : ∀ (s : Shared) (H : Hp) (C : Addr) (cl : List (Str × Addr)) (fp : List Addr), PTs (X.blk s H scope (compEnvC scope cl C X.env) fp) ifs1 (tG G tc1 W0))
    (he : ∀ (s : Shared) (H : Hp) (C : Addr) (cl : List (Str × Addr)) (fp : List Addr), PE (X.blk s H scope (compEnvC scope cl C X.env) fp) elt (eG G f W0)) (hs : ∀ x, foldedSetIterable iter X.env x = pure x := by intro _; rfl) (hs1 : ∀ env x, foldedSetIterable iter1 env x = pure x := by intro _ _; rfl) :
    PE X (.ListComp elt [⟨tg, iter, ifs, 0⟩, ⟨tg1, iter1, ifs1, 0⟩] scope pos) (fG G (eLc2 fi (own.map (·.2)) t tc fi1 vs1 t1 tc1 f) W) := PE.imp (pe_lc2 hc hN hi ok hv hg ht hi1 hg1 ht1 he hs hs1) fun _ _ _ h => fG_lc2 hv h
theorem ds_setLc2 {i : Nat} {y : Str} (hc : X.calm = true) (hN : X.N.Nodup) (ok : BlkOk X.N X.env.scope scope own) (hv : ∀ i ∈ vs1, i ∈ own.map (·.2)) (hi : PI X tg iter (iG G fi W))
    (hg : ∀ (s : Shared) (H : Hp) (C : Addr) (cl : List (Str × Addr)) (fp : List Addr), PG (X.blk s H scope (compEnvC scope cl C X.env) fp) tg (gG G (own.map (·.2)) t))
    (ht : ∀ (s : Shared) (H : Hp) (C : Addr) (cl : List (Str × Addr)) (fp : List Addr), PTs (X.blk s H scope (compEnvC scope cl C X.env) fp) ifs (tG G tc W0))
    (hi1 : ∀ (s : Shared) (H : Hp) (C : Addr) (cl : List (Str × Addr)) (fp : List Addr), PI (X.blk s H scope (compEnvC scope cl C X.env) fp) tg1 iter1 (iG G fi1 W0))
    (hg1 : ∀ (s : Shared) (H : Hp) (C : Addr) (cl : List (Str × Addr)) (fp : List Addr), PG (X.blk s H scope (compEnvC scope cl C X.env) fp) tg1 (gG G vs1 t1))
    (ht1 : ∀ (s : Shared) (H : Hp) (C : Addr) (cl : List (Str × Addr)) (fp : List Addr), PTs (X.blk s H scope (compEnvC scope cl C X.env) fp) ifs1 (tG G tc1 W0))
    (he : ∀ (s : Shared) (H : Hp) (C : Addr) (cl : List (Str × Addr)) (fp : List Addr), PE (X.blk s H scope (compEnvC scope cl C X.env) fp) elt (eG G f W0))
    (hsw : swapsWith (.ListComp elt [⟨tg, iter, ifs, 0⟩, ⟨tg1, iter1, ifs1, 0⟩] scope pos) (some (.Name y py)) spos.line X.env = pure true) (hy : X.N[i]? = some y := by rfl) (hyl : X.env.scope.names.lookup y = some .local := by rfl)
    (hs : ∀ x, foldedSetIterable iter X.env x = pure x := by intro _; rfl) (hs1 : ∀ env x, foldedSetIterable iter1 env x = pure x := by intro _ _; rfl) (hp : ∀ q, G.bp ≠ some (i, q) := by intro q h; cases h) :
    PS X (.Assign [.Name y py] (.ListComp elt [⟨tg, iter, ifs, 0⟩, ⟨tg1, iter1, ifs1, 0⟩] scope pos) spos) (sG G (sSetO i (eLc2 fi (own.map (·.2)) t tc fi1 vs1 t1 tc1 f)) W) := by
  refine PS.imp (ps_setLc2 hc hN hy hyl hsw hi ok hv hg ht hi1 hg1 ht1 he hs hs1) fun Dn σ H h => ?_
  exact fG_lc2 hv (fGS h fun p d H' B F0 F env rs ro h1 h2 h3 q => q _ F H' (rs.seto i ro h1 h2 h3 fun z hz => (hp z hz).elim))
end
end DL
end

section
set_option Elab.async false
set_option linter.all false
set_option autoImplicit false
set_option maxRecDepth 100000
set_option maxHeartbeats 4000000
/-! DL8: own exceptions: made, raised, caught; repr; isinstance. -/
namespace DL
open PySem L2 PyProof.Rows PySem.Spec

/-! ### Base.__init__(self, ..), Base an own class over ValueError -/
theorem pe_netinit {X : Cx} {N : Addr} {mc : Value} {x : Str} {e : Expr} {es : List Expr} {ta : TA} {p1 p2 pos : Pos} {pl : Sem Bool} (rd : PySem.W.readsIn X.K N mc = true) (ga : PySem.W.specialIn X.K (.ref N) "__getattribute__" = some (some (.builtin "type.__getattribute__")))
    (vV : PySem.W.findCls X.K (.ref N) mc "__init__" = some (.val (.builtin "ValueError.__init__"))) (hm : X.mg x = some (.ref N)) (ha : PA X (e :: es) ta) (hg : Gl X x := by rfl) (hd : (x == ("__debug__" : Str)) = false := by decide)
    (hc : eval (.Call (.Attribute (.Name x p1) "__init__" p2) (e :: es) [] pos) X.env = (do
      let ov ← eval (.Name x p1) X.env
      standAt p2.atName
      let (f, first) ← holding [ov] (getMethod ov "__init__" pl)
      callWith pos f first (backTo pos (starEach (e :: es) X.env)) (backToKw pos (keywordEach [] X.env))) := by rfl)
    (he : starEach (e :: es) X.env = (false, eval e X.env) :: starEach es X.env := by rfl) (hpl : (backTo pos (starEach es X.env)).any (·.1) = false := by rfl) :
    PE X (.Call (.Attribute (.Name x p1) "__init__" p2) (e :: es) [] pos) (tVeI X.K ta) := by
  refine ⟨fun pins s σ H Q I h => PySem.W.methodCall_KW (pl := pl) (ld_glob I hg hm ?_ hd) hc⟩
  refine PySem.W.method_cls I.kIn ga (PySem.W.cls_value I.kIn rd vV (by decide +kernel) ?_)
  show wpAny _ _ (callWith pos (Value.builtin "ValueError.__init__") [] (backTo pos (starEach (e :: es) X.env)) []) _ _ _
  refine PyProof.Rows.callWith_method1 (thn (ha.run pos pins _ σ H _ (I.tok _) h) fun us s1 ⟨vs, H1, I1, rel, a, C, ws, ev, hl, T, ea, q⟩ => ?_) he hpl
  subst ev
  cases rel with
  | @cons _ u0 _ ur ra rr =>
    cases (show u0 = Value.ref a from ra)
    exact oinit_ok T I1 ea (by rw [← Paired.length rr, sizeLine_eq]; omega) fun s' J => ⟨.non, H1, J, rfl, q⟩
/-- __init__ of an own error with one field -/
def spE (C : Addr) (f : Str) : Sp := fun vs H Q _ => ∃ a w, vs = [.ref a, w] ∧ H a = some (exo a C none) ∧ ∀ dx, H dx = none → dx ≠ a → Q .non (upd (upd H dx (exd dx [(f, w)])) a (exo a C (some dx)))
/-- what is asked of an error's class (one field f), for raise -/
structure ErrC (G : Gm) (X : Cx) (x : Str) (c : Nat) (f : Str) : Prop where
  ex : ∃ (k : Nat) (fI : Addr) (fd : FuncData) (ps : List Str), OexC X.K (G.cl c) ∧ PySem.W.findIn X.K (.ref (G.cl c)) "__init__" = some (some (.ref fI)) ∧ PySem.W.typeIn X.K (.ref fI) = some (.type "function") ∧
    FnOk X.prog X.w X.K X.mg X.base (L2.CX X.prog X.w) k fI fd ps (spE (G.cl c) f) ∧ Room (k + 1) X.A ∧ Binds X.K fd ps [] ∧ X.mg x = some (.ref (G.cl c))
def sRaise (c : Nat) (f : Str) (a : EM D) : SM := fun env => liftE (a env) fun d e => .er c [(f, d)] e
section
variable {G : Gx} {X : Cx} {W : WX} {a : Expr} {fa : EM D} {p pos pos2 : Pos} {x f : Str} {c : Nat}
theorem ds_raise (E : ErrC G X x c f) (hc : X.calm = true) (tk : Takes X W) (ha : PE X a (eG G fa W)) (hg : Gl X x := by rfl) (hdb : (x == ("__debug__" : Str)) = false := by decide) (he : starEach (a :: []) X.env = (false, eval a X.env) :: starEach [] X.env := by rfl) (hpl : (backTo pos (starEach [] X.env)).any (·.1) = false := by rfl) :
    PS X (.Raise (some (.Call (.Name x p) [a] [] pos)) none pos2) (sG G (sRaise c f fa) W) := by
  obtain ⟨k, fI, fd, ps, h1, h2, h3, h4, h5, h6, h7⟩ := E.ex
  refine PS.imp (ps_raise hc tk (pmk_oex h1 h2 h3 h4 h5 h6 .nil passL hg h7 (pa_cons ha pa_nil he) hdb he hpl)) fun Dn σ H h => ?_
  refine eGS h fun v d H1 B F0 F env rs rp q => ?_
  refine ⟨by show 1 ≤ 1000; decide, fun ea hea => ⟨ea, v, rfl, upd_same, fun dx hdx hne => ⟨rfl, dx, [(f, v)], upd_same, ?_, ?_, ?_⟩⟩⟩
  · rw [upd_ne hne, upd_same]
  · rw [upd_ne hne] at hdx
    exact hdx
  · rw [upd_ne hne] at hdx
    have e : upd (del (upd (upd (upd H1 ea (exo ea (G.cl c) none)) dx (exd dx [(f, v)])) ea (exo ea (G.cl c) (some dx))) ea) dx (HO.xd [(f, v)]) = upd H1 dx (HO.xd [(f, v)]) := by
      funext b
      by_cases hb : b = dx
      · subst hb
        rw [upd_same, upd_same]
      · rw [upd_ne hb, upd_ne hb]
        by_cases hb2 : b = ea
        · subst hb2
          rw [del_same, hea]
        · rw [del_ne hb2, upd_ne hb2, upd_ne hb, upd_ne hb2]
    rw [e]
    have g := Grow.new (o := .xd [(f, v)]) rs.fh hdx
    exact q dx σ _ _ [(f, v)] (rs.grow g) upd_same (.cons (rp.mono g.f) .nil)
end

/-! ### try with several clauses, each with or without a name -/
def wManyN (K : PySem.W.Frag) (Wout : WX) (Dn : Ends) : List (Value × Option Nat × (Addr → Value → Option Addr → TS)) → WX
  | [] => Wout
  | (c, some i, ts) :: r => fun cls d σ H => ∃ b, PySem.W.exmOne K cls c = some b ∧ (b = true → ∀ a, H a = none → ts a cls d { nx := fun σ' H' => Dn.nx (σ'.set i none) H', rt := Dn.rt, bk := fun σ' H' => Dn.bk (σ'.set i none) H', ct := fun σ' H' => Dn.ct (σ'.set i none) H' } (σ.set i (some (.ref a))) H) ∧ (b = false → wManyN K Wout Dn r cls d σ H)
  | (c, none, ts) :: r => fun cls d σ H => ∃ b, PySem.W.exmOne K cls c = some b ∧ (b = true → ∀ a, H a = none → ts a cls d Dn σ H) ∧ (b = false → wManyN K Wout Dn r cls d σ H)
def SuiteOk (X : Cx) (st : List Stmt) (ts : Addr → Value → Option Addr → TS) : Prop := ∀ (a : Addr) (oe : Obj) (cls : Value) (d : Option Addr) (pn : List (Addr × Obj)), Zc cls d oe → (∃ vs, oe.data = .fields vs) → PSs (X.suite a ((a, oe) :: pn)) st (ts a cls d)
inductive HdsN (X : Cx) : List ExceptHandler → List (Value × Option Nat × (Addr → Value → Option Addr → TS)) → Prop
  | nil : HdsN X [] []
  | named {x n : Str} {c : Value} {i : Nat} {ts : Addr → Value → Option Addr → TS} {b0 : Stmt} {suite : List Stmt} {np pp : Pos} {hds : List ExceptHandler} {l : List (Value × Option Nat × (Addr → Value → Option Addr → TS))} (hc : Names X x c) (hi : X.N[i]? = some n) (hl : X.env.kindOf n = some .local)
      (su : SuiteOk X (b0 :: suite) ts) (r : HdsN X hds l) : HdsN X (.ExceptHandler (some (.Name x np)) (some n) (b0 :: suite) pp :: hds) ((c, some i, ts) :: l)
  | plain {x : Str} {c : Value} {ts : Addr → Value → Option Addr → TS} {b0 : Stmt} {suite : List Stmt} {np pp : Pos} {hds : List ExceptHandler} {l : List (Value × Option Nat × (Addr → Value → Option Addr → TS))} (hc : Names X x c)
      (su : SuiteOk X (b0 :: suite) ts) (r : HdsN X hds l) : HdsN X (.ExceptHandler (some (.Name x np)) none (b0 :: suite) pp :: hds) ((c, none, ts) :: l)
section
variable {X : Cx} {body : List Stmt} {h0 : ExceptHandler} {hds : List ExceptHandler} {l : List (Value × Option Nat × (Addr → Value → Option Addr → TS))} {pos : Pos} {tb : WX → TS} {Wout : WX}
theorem ps_tryN (hs : X.stack = X.env :: X.outer) (hf : X.env.frame = some X.env.locals) (hN : X.N.Nodup) (tk : Takes X Wout)
    (hb : ∀ (W : WX) (pn : List (Addr × Obj)) (xe : Value → Shared → Prop), Takes (X.tr pn xe) W → PassesOwn (model X.prog X.w) X.A X.env xe → PSs (X.tr pn xe) body (tb W))
    (hh : HdsN X (h0 :: hds) l) : PS X (.Try body (h0 :: hds) [] [] pos) (fun Dn σ H => tb (wManyN X.K Wout Dn l) Dn σ H) := by
  refine ⟨fun pins s σ H Dn I rd => wpAny_Try_except ?_⟩
  have okX := I.ok
  have frs0 : X.A.frames = some (X.env :: X.outer) := okX.frames.trans (congrArg some hs)
  let xe' : Value → Shared → Prop := fun e s1 => wpAny (model X.prog X.w) X.A (noteFrame e X.env) (fun _ s2 => wpAny (model X.prog X.w) X.A (setFlight e none) (fun _ s3 =>
    wpAny (model X.prog X.w) X.A (handleBy e X.env (h0 :: hds)) (SP X pins Dn) X.xe s3) X.xe s2) X.xe s1
  have taken : Takes (X.tr (X.pn ++ pins) xe') (wManyN X.K Wout Dn l) := by
    rintro u s' ⟨a, B, sI, pins', σ1, H1, cls, d, rfl, J0, nb, up, sky, na, os, ag, wish⟩
    have J : Inv X pins σ1 H1 sI := J0.ofTry okX
    rw [show (X.tr (X.pn ++ pins) xe').stack = X.env :: X.outer from hs] at sky
    show wpAny (model X.prog X.w) X.A (noteFrame (.ref a) X.env) _ _ _
    refine Sky.land Zc.steady frs0 hf sky fun h3 fl up3 => ?_
    have J3 : Inv X pins σ1 H1 { s' with heap := h3 } := J.landed nb fl.1 (up.trans up3) os ag
    obtain ⟨o3, w3, g3, z3, d3⟩ := fl.there
    have out : a ∉ frs (X.env :: X.outer) := fun mem => by
      obtain ⟨_, o', g', nf⟩ := fl.2.2.1.mem mem
      rw [g3] at g'
      cases g'
      exact nf _ d3
    have notL : a ≠ X.env.locals := fun z => out (List.mem_filterMap.mpr ⟨X.env, List.mem_cons_self, by rw [hf, z]⟩)
    have notF : a ∉ X.fs := fun mem => by
      obtain ⟨ev, hev, q⟩ := List.mem_filterMap.mp mem
      exact out (List.mem_filterMap.mpr ⟨ev, List.mem_cons_of_mem _ hev, q⟩)
    have S3 := J3.suite g3 d3 na notL notF
    have looked : ∀ {x : Str} {c : Value} {np : Pos} {Q : Value → Shared → Prop} {E : Value → Shared → Prop}, Names X x c → Q c { s' with heap := h3 } → wpAny (model X.prog X.w) (X.A.mark (some (.ref a))) (eval (.Name x np) X.env) Q E { s' with heap := h3 } := fun {x c np Q E} nm q => by
      obtain ⟨n1, n2, n3 | ⟨n3, n4, n5⟩⟩ := nm
      · exact ld_glob (X := X.suite a ((a, o3) :: (X.pn ++ pins))) S3 n1 n3 q n2
      · exact ld_blt (X := X.suite a ((a, o3) :: (X.pn ++ pins))) S3 n1 n3 n4 q n5 n2
    have typ : PySem.W.Looks (model X.prog X.w) h3 (typeOf (.ref a)) cls := fun A Q E s kp q => wpAny_typeOf_ref (kp _ _ g3) (by rw [z3.1]; exact q)
    have clauses : ∀ {hs' : List ExceptHandler} {l' : List (Value × Option Nat × (Addr → Value → Option Addr → TS))}, HdsN X hs' l' → wManyN X.K Wout Dn l' cls d σ1 H1 →
        wpAny (model X.prog X.w) X.A (handleBy (.ref a) X.env hs') (SP X pins Dn) X.xe { s' with heap := h3 } := by
      intro hs' l' hk
      induction hk with
      | nil =>
        intro wsh
        refine wpAny_handleBy_nil ?_
        obtain ⟨k1, k2, k3, oe, vs, T, oT, ts', ge, hz, hd, hh1, hr⟩ := id fl
        unfold PySem.passOn
        refine wpAny_bind (wpAny_field ge hd hh1 ?_)
        rw [if_neg (by simp : ¬ ((Value.ref T == Value.none) = true))]
        have fin : wpAny (model X.prog X.w) X.A (setFlight (.ref a) X.env.frame) (fun _ s4 => wpAny (model X.prog X.w) X.A (throw (.ref a) : Sem Flow) (SP X pins Dn) X.xe s4) X.xe { s' with heap := h3 } := by
          rw [hf]
          refine HandSPX.setFlight_upZ fl fun h4 held up4 => wpAny_throw (tk _ _ ⟨a, B, sI, pins, σ1, H1, cls, d, rfl, J, nb, (up.trans up3).trans up4, Or.inr (Or.inr ?_), na, os, ag, wsh⟩)
          rw [hs]
          exact held
        first
          | exact wpAny_bind (wpAny_pure (wpAny_bind fin))
          | exact wpAny_bind fin
      | @named x n c i ts b0 suite np pp hds2 l2 hc hi hl su r ih =>
        intro wsh
        obtain ⟨b, eb, yes, no⟩ := wsh
        refine wpAny_handleBy_cons (codeAny_handlers_test ?_) (by intro q; cases q)
        refine looked hc ((PySem.W.exm_one (M := model X.prog X.w) J3.kIn typ eb).here ?_)
        cases b with
        | false =>
          show wpAny _ X.A (handleBy (.ref a) X.env hds2) _ _ _
          exact ih (no rfl)
        | true =>
          refine codeAny_handlers_suite_as (HandSPX.lands_againZ fl fun h4 fl4 up4 => ?_)
          have J4 : Inv X pins σ1 H1 { s' with heap := h4 } := J.landed nb fl4.1 ((up.trans up3).trans up4) os ag
          obtain ⟨o4, w4, g4, z4, d4⟩ := fl4.there
          have S4 := J4.suite g4 d4 na notL notF
          refine store_ok (X := X.suite a ((a, o4) :: (X.pn ++ pins))) (v := .ref a) S4 hN hi (Or.inl hl) rfl (fun s5 S5 => ?_) (Or.inr hl)
          refine wpAny_mono ((su a o4 cls d (X.pn ++ pins) z4 ⟨_, d4⟩).run [] s5 _ H1 _ S5 (yes rfl a na)) (fun fl6 s6 got => ?_) (fun _ _ z => z.elim)
          have gone : ∀ {σ6 : L2.St} {H6 : Hp} {Q : Shared → Prop}, Inv (X.suite a ((a, o4) :: (X.pn ++ pins))) [] σ6 H6 s6 → (∀ s7, Inv X pins (σ6.set i none) H6 s7 → Q s7) →
              wpAny (model X.prog X.w) X.A (do bindName X.env n .none; unbindBehindTheSuite X.env n pp) (fun _ s7 => Q s7) X.xe s6 := fun {σ6 H6 Q} S6 hq => gone_ok (S6.unsuite okX) hN hi hl hq
          cases fl6 with
          | next =>
            obtain ⟨σ6, H6, S6, q6⟩ := got
            exact gone S6 fun s7 J7 => ⟨_, _, J7, q6⟩
          | brk =>
            obtain ⟨σ6, H6, S6, q6⟩ := got
            exact gone S6 fun s7 J7 => ⟨_, _, J7, q6⟩
          | cont =>
            obtain ⟨σ6, H6, S6, q6⟩ := got
            exact gone S6 fun s7 J7 => ⟨_, _, J7, q6⟩
          | ret u =>
            obtain ⟨v6, σ6, H6, S6, r6, q6⟩ := got
            exact gone S6 fun s7 J7 => ⟨_, _, _, J7, r6, q6⟩
      | @plain x c ts b0 suite np pp hds2 l2 hc su r ih =>
        intro wsh
        obtain ⟨b, eb, yes, no⟩ := wsh
        refine wpAny_handleBy_cons (codeAny_handlers_test ?_) (by intro q; cases q)
        refine looked hc ((PySem.W.exm_one (M := model X.prog X.w) J3.kIn typ eb).here ?_)
        cases b with
        | false =>
          show wpAny _ X.A (handleBy (.ref a) X.env hds2) _ _ _
          exact ih (no rfl)
        | true =>
          refine codeAny_handlers_suite (HandSPX.lands_againZ fl fun h4 fl4 up4 => ?_)
          have J4 : Inv X pins σ1 H1 { s' with heap := h4 } := J.landed nb fl4.1 ((up.trans up3).trans up4) os ag
          obtain ⟨o4, w4, g4, z4, d4⟩ := fl4.there
          have S4 := J4.suite g4 d4 na notL notF
          refine wpAny_mono ((su a o4 cls d (X.pn ++ pins) z4 ⟨_, d4⟩).run [] _ _ H1 _ S4 (yes rfl a na)) (fun fl6 s6 got => ?_) (fun _ _ z => z.elim)
          cases fl6 with
          | next =>
            obtain ⟨σ6, H6, S6, q6⟩ := got
            exact ⟨_, _, S6.unsuite okX, q6⟩
          | brk =>
            obtain ⟨σ6, H6, S6, q6⟩ := got
            exact ⟨_, _, S6.unsuite okX, q6⟩
          | cont =>
            obtain ⟨σ6, H6, S6, q6⟩ := got
            exact ⟨_, _, S6.unsuite okX, q6⟩
          | ret u =>
            obtain ⟨v6, σ6, H6, S6, r6, q6⟩ := got
            exact ⟨_, _, _, S6.unsuite okX, r6, q6⟩
    exact clauses hh wish
  refine wpAny_mono ((hb (wManyN X.K Wout Dn l) (X.pn ++ pins) xe' taken PassesOwn.looking).run [] s σ H Dn (I.toTry _) rd) (fun fl s1 got => ?_) (fun e s1 he => he)
  cases fl with
  | next =>
    obtain ⟨σ', H', J', q⟩ := got
    exact wpAny_execs_nil ⟨σ', H', J'.ofTry okX, q⟩
  | brk =>
    obtain ⟨σ', H', J', q⟩ := got
    exact ⟨σ', H', J'.ofTry okX, q⟩
  | cont =>
    obtain ⟨σ', H', J', q⟩ := got
    exact ⟨σ', H', J'.ofTry okX, q⟩
  | ret u =>
    obtain ⟨v, σ', H', J', r, q⟩ := got
    exact ⟨v, σ', H', J'.ofTry okX, r, q⟩
end
end DL
end

section
set_option Elab.async false
set_option linter.all false
set_option autoImplicit false
set_option maxRecDepth 100000
set_option maxHeartbeats 4000000
/-! DL9: try by data; repr; isinstance; a def that changes its first argument, by its body. -/
namespace DL
open PySem L2 PyProof.Rows PySem.Spec

def dropC : Option Cell → Option Cell
  | some (.exc _ _) => none
  | o => o
def dropX (env : DEnv) : DEnv := env.map dropC
def clrN (i : Nat) : SR → SR
  | .nx e => .nx ((dropX e).set i none)
  | .bk e => .bk ((dropX e).set i none)
  | .ct e => .ct ((dropX e).set i none)
  | .rt c e => .rt c (dropX e)
  | .er _ _ _ => .bad
  | .bad => .bad
def clrP : SR → SR
  | .nx e => .nx (dropX e)
  | .bk e => .bk (dropX e)
  | .ct e => .ct (dropX e)
  | .rt c e => .rt c (dropX e)
  | .er _ _ _ => .bad
  | .bad => .bad
def runH (isa : Nat → Nat → Bool) (c : Nat) (fs : List (Str × D)) (e : DEnv) : List (Nat × Option Nat × SM) → SR
  | [] => .er c fs e
  | (c0, some i, h) :: r => if isa c c0 = true then clrN i (h (e.set i (some (.exc c fs)))) else runH isa c fs e r
  | (c0, none, h) :: r => if isa c c0 = true then clrP (h e) else runH isa c fs e r
def sTry (n : Nat) (isa : Nat → Nat → Bool) (b : SM) (hs : List (Nat × Option Nat × SM)) : SM := fun env => match b env with
  | .er c fs e => if c < n then runH isa c fs e hs else .bad
  | r => r
def hXA (G : Gm) (a : Addr) (cls : Value) (d : Option Addr) : Addr → Addr → Nat → Prop := fun a' dd c => a' = a ∧ d = some dd ∧ cls = .ref (G.cl c)
section
variable {G : Gm} {XA XA' : Addr → Addr → Nat → Prop} {bp : Option (Nat × Addr)} {B F0 F H : Hp} {σ : L2.St} {env : DEnv}
theorem RepS.xa (r : RepS ⟨G, XA, bp⟩ B F0 F H σ env) (hno : ∀ a dd c, ¬ XA a dd c) : RepS ⟨G, XA', bp⟩ B F0 F H σ env where
  bh := r.bh
  f0 := r.f0
  fh := r.fh
  fr := r.fr
  len := r.len
  val := r.val
  own := r.own
  sep := r.sep
  exc := fun i c fs q => by
    obtain ⟨a, dd, fvs, _, h2, _⟩ := r.exc i c fs q
    exact (hno a dd c h2).elim
  pin := r.pin
theorem drop_get {i : Nat} {c : Cell} (h : (dropX env)[i]? = some (some c)) : env[i]? = some (some c) ∧ ∀ k fs, c ≠ .exc k fs := by
  unfold dropX at h
  rw [List.getElem?_map, Option.map_eq_some_iff] at h
  obtain ⟨o, h1, h2⟩ := h
  cases o with
  | none => cases h2
  | some c' =>
    cases c' with
    | exc k fs => cases h2
    | val d =>
      cases h2
      exact ⟨h1, fun k fs z => by cases z⟩
    | own d =>
      cases h2
      exact ⟨h1, fun k fs z => by cases z⟩
theorem RepS.dropX (r : RepS ⟨G, XA, bp⟩ B F0 F H σ env) : RepS ⟨G, XA', bp⟩ B F0 F H σ (dropX env) where
  bh := r.bh
  f0 := r.f0
  fh := r.fh
  fr := r.fr
  len := by simpa [DL.dropX] using r.len
  val := fun i d q => r.val i d (drop_get q).1
  own := fun i d q => r.own i d (drop_get q).1
  sep := fun i j d e p hij q1 q2 => r.sep i j d e p hij (drop_get q1).1 (drop_get q2).1
  exc := fun i c fs q => ((drop_get q).2 c fs rfl).elim
  pin := fun i p d hb q => r.pin i p d hb (drop_get q).1
theorem RepS.sete (r : RepS ⟨G, XA, bp⟩ B F0 F H σ env) {a dd : Addr} {c : Nat} {fvs : List (Str × V)} {fs : List (Str × D)} (i : Nat) (hx : XA a dd c) (hd : F dd = some (.xd fvs)) (rf : RepF G F fvs fs) : RepS ⟨G, XA, bp⟩ B F0 F H (σ.set i (some (.ref a))) (env.set i (some (.exc c fs))) where
  bh := r.bh
  f0 := r.f0
  fh := r.fh
  fr := r.fr
  len := by simpa using r.len
  val := fun j e q => by
    rw [List.getElem?_set] at q ⊢
    by_cases hj : i = j
    · subst hj
      rw [if_pos rfl] at q
      split at q <;> cases q
    · rw [if_neg hj] at q ⊢
      exact r.val j e q
  own := fun j e q => by
    rw [List.getElem?_set] at q ⊢
    by_cases hj : i = j
    · subst hj
      rw [if_pos rfl] at q
      split at q <;> cases q
    · rw [if_neg hj] at q ⊢
      exact r.own j e q
  sep := fun j k d' e p hjk q1 q2 => by
    rw [List.getElem?_set] at q1 q2
    by_cases hj : i = j
    · subst hj
      rw [if_pos rfl] at q1
      split at q1 <;> cases q1
    · by_cases hk : i = k
      · subst hk
        rw [if_pos rfl] at q2
        split at q2 <;> cases q2
      · rw [if_neg hj] at q1
        rw [if_neg hk] at q2
        rw [List.getElem?_set, List.getElem?_set, if_neg hj, if_neg hk]
        exact r.sep j k d' e p hjk q1 q2
  exc := fun j c' fs' q => by
    rw [List.getElem?_set] at q ⊢
    by_cases hj : i = j
    · subst hj
      rw [if_pos rfl] at q ⊢
      split at q
      · cases q
        rename_i hl
        rw [if_pos (by rw [← r.len]; exact hl)]
        exact ⟨a, dd, fvs, rfl, hx, hd, rf⟩
      · cases q
    · rw [if_neg hj] at q ⊢
      exact r.exc j c' fs' q
  pin := fun j p' d' hb q => by
    rw [List.getElem?_set] at q ⊢
    by_cases hj : i = j
    · subst hj
      rw [if_pos rfl] at q
      split at q <;> cases q
    · rw [if_neg hj] at q ⊢
      exact r.pin j p' d' hb q
end
/-- the clauses of a try, by data -/
inductive HdD (G : Gm) (bp : Option (Nat × Addr)) (X : Cx) (n : Nat) (isa : Nat → Nat → Bool) : List ExceptHandler → List (Nat × Option Nat × SM) → List (Value × Option Nat × (Addr → Value → Option Addr → TS)) → Prop
  | nil : HdD G bp X n isa [] [] []
  | named {x nm : Str} {c0 i : Nat} {h : SM} {b0 : Stmt} {suite : List Stmt} {np pp : Pos} {hds : List ExceptHandler} {hs : List (Nat × Option Nat × SM)} {l : List (Value × Option Nat × (Addr → Value → Option Addr → TS))} (hc : Names X x (.ref (G.cl c0)))
      (hx : ∀ c, c < n → PySem.W.exmOne X.K (.ref (G.cl c)) (.ref (G.cl c0)) = some (isa c c0)) (hi : X.N[i]? = some nm) (hl : X.env.kindOf nm = some .local)
      (su : SuiteOk X (b0 :: suite) fun a cls d => sG ⟨G, hXA G a cls d, bp⟩ h W0) (r : HdD G bp X n isa hds hs l) :
      HdD G bp X n isa (.ExceptHandler (some (.Name x np)) (some nm) (b0 :: suite) pp :: hds) ((c0, some i, h) :: hs) ((.ref (G.cl c0), some i, fun a cls d => sG ⟨G, hXA G a cls d, bp⟩ h W0) :: l)
  | plain {x : Str} {c0 : Nat} {h : SM} {b0 : Stmt} {suite : List Stmt} {np pp : Pos} {hds : List ExceptHandler} {hs : List (Nat × Option Nat × SM)} {l : List (Value × Option Nat × (Addr → Value → Option Addr → TS))} (hc : Names X x (.ref (G.cl c0)))
      (hx : ∀ c, c < n → PySem.W.exmOne X.K (.ref (G.cl c)) (.ref (G.cl c0)) = some (isa c c0))
      (su : SuiteOk X (b0 :: suite) fun a cls d => sG ⟨G, hXA G a cls d, bp⟩ h W0) (r : HdD G bp X n isa hds hs l) :
      HdD G bp X n isa (.ExceptHandler (some (.Name x np)) none (b0 :: suite) pp :: hds) ((c0, none, h) :: hs) ((.ref (G.cl c0), none, fun a cls d => sG ⟨G, hXA G a cls d, bp⟩ h W0) :: l)
section
variable {G : Gm} {bp : Option (Nat × Addr)} {X : Cx} {n : Nat} {isa : Nat → Nat → Bool} {W : WX}
theorem HdD.ok {hds : List ExceptHandler} {hs : List (Nat × Option Nat × SM)} {l : List (Value × Option Nat × (Addr → Value → Option Addr → TS))} (h : HdD G bp X n isa hds hs l) : HdsN X hds l := by
  induction h with
  | nil => exact .nil
  | named hc hx hi hl su r ih => exact .named hc hi hl su ih
  | plain hc hx su r ih => exact .plain hc su ih
theorem HdD.wish {hds : List ExceptHandler} {hs : List (Nat × Option Nat × SM)} {l : List (Value × Option Nat × (Addr → Value → Option Addr → TS))} (h : HdD G bp X n isa hds hs l) {c : Nat} (hc : c < n) {fs : List (Str × D)} {e : DEnv} {B F0 F H : Hp} {σ : L2.St} {Dn : Ends} {dx : Addr} {fvs : List (Str × V)}
    (rs : RepS ⟨G, noXA, bp⟩ B F0 F H σ e) (hd : F dx = some (.xd fvs)) (rf : RepF G F fvs fs) (p : SPost ⟨G, noXA, bp⟩ B F0 W Dn (runH isa c fs e hs)) : wManyN X.K W Dn l (.ref (G.cl c)) (some dx) σ H := by
  induction h with
  | nil => exact p dx σ F H fvs rs hd rf
  | @named x nm c0 i h b0 suite np pp hds hs l hcn hx hi hl su r ih =>
    refine ⟨isa c c0, hx c hc, fun yes a _ => ?_, fun no => ?_⟩
    · unfold runH at p
      rw [if_pos yes] at p
      have r1 : RepS ⟨G, hXA G a (.ref (G.cl c)) (some dx), bp⟩ B F0 F H σ e := rs.xa fun _ _ _ z => z
      refine ⟨B, F0, F, _, r1.sete i ⟨rfl, rfl, rfl⟩ hd rf, ?_⟩
      cases hr : h (e.set i (some (.exc c fs))) with
      | nx e2 =>
        rw [hr] at p
        exact fun σ' F' H' r2 => p _ F' H' (r2.dropX.forget none i)
      | bk e2 =>
        rw [hr] at p
        exact fun σ' F' H' r2 => p _ F' H' (r2.dropX.forget none i)
      | ct e2 =>
        rw [hr] at p
        exact fun σ' F' H' r2 => p _ F' H' (r2.dropX.forget none i)
      | rt c2 e2 =>
        rw [hr] at p
        exact fun v σ' F' H' r2 rc => p v σ' F' H' r2.dropX rc
      | er c2 f2 e2 => rw [hr] at p; exact p.elim
      | bad => rw [hr] at p; exact p.elim
    · unfold runH at p
      rw [if_neg (by rw [no]; exact Bool.false_ne_true)] at p
      exact ih p
  | @plain x c0 h b0 suite np pp hds hs l hcn hx su r ih =>
    refine ⟨isa c c0, hx c hc, fun yes a _ => ?_, fun no => ?_⟩
    · unfold runH at p
      rw [if_pos yes] at p
      have r1 : RepS ⟨G, hXA G a (.ref (G.cl c)) (some dx), bp⟩ B F0 F H σ e := rs.xa fun _ _ _ z => z
      refine ⟨B, F0, F, _, r1, ?_⟩
      cases hr : h e with
      | nx e2 =>
        rw [hr] at p
        exact fun σ' F' H' r2 => p _ F' H' r2.dropX
      | bk e2 =>
        rw [hr] at p
        exact fun σ' F' H' r2 => p _ F' H' r2.dropX
      | ct e2 =>
        rw [hr] at p
        exact fun σ' F' H' r2 => p _ F' H' r2.dropX
      | rt c2 e2 =>
        rw [hr] at p
        exact fun v σ' F' H' r2 rc => p v σ' F' H' r2.dropX rc
      | er c2 f2 e2 => rw [hr] at p; exact p.elim
      | bad => rw [hr] at p; exact p.elim
    · unfold runH at p
      rw [if_neg (by rw [no]; exact Bool.false_ne_true)] at p
      exact ih p
theorem ds_try {body : List Stmt} {h0 : ExceptHandler} {hds : List ExceptHandler} {hs : List (Nat × Option Nat × SM)} {l : List (Value × Option Nat × (Addr → Value → Option Addr → TS))} {b : SM} {pos : Pos} (hst : X.stack = X.env :: X.outer) (hf : X.env.frame = some X.env.locals) (hN : X.N.Nodup) (tk : Takes X W)
    (hb : ∀ (W : WX) (pn : List (Addr × Obj)) (xe : Value → Shared → Prop), Takes (X.tr pn xe) W → PassesOwn (model X.prog X.w) X.A X.env xe → PSs (X.tr pn xe) body (sG ⟨G, noXA, bp⟩ b W)) (hh : HdD G bp X n isa (h0 :: hds) hs l) :
    PS X (.Try body (h0 :: hds) [] [] pos) (sG ⟨G, noXA, bp⟩ (sTry n isa b hs) W) := by
  refine PS.imp (ps_tryN hst hf hN tk hb hh.ok) fun Dn σ H ⟨B, F0, F, env, rs, p⟩ => ⟨B, F0, F, env, rs, ?_⟩
  unfold sTry at p
  cases hr : b env with
  | nx e => rw [hr] at p; exact p
  | rt c e => rw [hr] at p; exact p
  | bk e => rw [hr] at p; exact p
  | ct e => rw [hr] at p; exact p
  | bad => rw [hr] at p; exact p
  | er c fs e =>
    rw [hr] at p
    simp only at p
    split at p
    · rename_i hlt
      exact fun dx σ' F' H' fvs r2 h1 h2 => hh.wish hlt r2 h1 h2 p
    · exact p.elim
end
/-! ### err.f in a suite -/
def eXf (i c0 : Nat) (f : Str) : EM D := fun env => match env[i]? with
  | some (some (.exc c fs)) => if c = c0 then (match fs.lookup f with
    | some d => .ok (d, env)
    | none => .bad) else .bad
  | _ => .bad
theorem de_xf {G : Gm} {bp : Option (Nat × Addr)} {X : Cx} {W : WX} {a : Addr} {oe : Obj} {cls : Value} {d : Option Addr} {pn : List (Addr × Obj)} {x f : Str} {i c0 : Nat} {pos p : Pos} (T : XfC X.K (G.cl c0)) (hno : PySem.W.findIn X.K (.ref (G.cl c0)) f = some none) (hz : Zc cls d oe) (hf : ∃ vs, oe.data = .fields vs)
    (hN : X.N[i]? = some x := by rfl) (hv : Vis X.env.scope x := by first | exact Or.inl rfl | exact Or.inr (Or.inl rfl) | exact Or.inr (Or.inr rfl)) (hdb : (x == ("__debug__" : Str)) = false := by decide) (hcd : (x == ("__classdict__" : Str)) = false := by decide)
    (hb : attributeBase (.Name x p) f X.env (eval (.Name x p) X.env) = eval (.Name x p) X.env := by rfl) :
    PE (X.suite a ((a, oe) :: pn)) (.Attribute (.Name x p) f pos) (eG ⟨G, hXA G a cls d, bp⟩ (eXf i c0 f) W) := by
  refine PE.imp (pe_xf T hno hz hf (pe_var (X := X.suite a ((a, oe) :: pn)) hN hv hdb hcd) hb) fun σ H Q ⟨B, F0, F, env, rs, q⟩ => ?_
  unfold eXf at q
  split at q
  · rename_i c fs he
    split at q
    · rename_i hc
      subst hc
      obtain ⟨a', dd, fvs, h1, ⟨rfl, rfl, rfl⟩, h3, h4⟩ := rs.exc i c fs he
      cases hl : fs.lookup f with
      | none => rw [hl] at q; exact q.elim
      | some dv =>
        rw [hl] at q
        obtain ⟨v, g1, g2⟩ := h4.look hl
        exact ⟨_, h1, rfl, rfl, dd, fvs, v, rfl, rs.fh _ _ h3, g1, q v F H rs (Ex.refl F) g2⟩
    · exact q.elim
  · exact q.elim

/-! ### repr -/
def showOk (a : PyData) : Bool := a.showable && decide (a.depth ≤ 60) && decide (a.shown.length ≤ 1000000)
def rRepr (K : PySem.W.Frag) : List V → Hp → VK → Prop := fun xs H Q => (∃ x d, xs = [x] ∧ Dp K H x d ∧ showOk d = true ∧ Q (.str d.shown) H) ∨ (∃ p, xs = [.ref p] ∧ H p = some (.dK []) ∧ Q (.str (PyData.shown (.dict []))) H)
theorem dp_nodict : ∀ {K : PySem.W.Frag} {H : Hp} {v : V} {d : PyData}, Dp K H v d → d.hasDict = false := by
  intro K H v d h
  exact Dp.rec (motive_1 := fun _ d _ => d.hasDict = false) (motive_2 := fun _ ds _ => PyData.hasDictAll ds = false) (by simp [PyData.hasDict]) (fun _ => by simp [PyData.hasDict]) (fun _ => by simp [PyData.hasDict]) (fun _ => by simp [PyData.hasDict])
    (fun _ _ ih => by simpa [PyData.hasDict] using ih) (fun _ _ ih => by simpa [PyData.hasDict] using ih) (by simp [PyData.hasDictAll]) (fun _ _ i1 i2 => by simp [PyData.hasDictAll, i1, i2]) h
theorem cr_repr {X : Cx} (hgd : X.A.guards = some []) (hu : X.A.units + 64 < cLine) : CallR X (.builtin "repr") (rRepr X.K) := by
  intro pins s σ H xs us Q I rel h
  rcases h with ⟨x, d, rfl, hd, ho, q⟩ | ⟨p, rfl, hp, q⟩
  · obtain ⟨u, rfl, ru⟩ := vals1 rel
    unfold showOk at ho
    rw [Bool.and_eq_true, Bool.and_eq_true] at ho
    obtain ⟨⟨h1, h2⟩, h3⟩ := ho
    have h2 := of_decide_eq_true h2
    have h3 := of_decide_eq_true h3
    have nd := dp_nodict hd
    obtain ⟨as, rds⟩ := Dp.reads I d x u hd ru
    cases hd with
    | non =>
      cases ru
      exact PySem.P.repr_of_none ⟨.str _, H, I.tok _, ⟨_, rfl⟩, by simpa [PyData.shown] using q⟩
    | bl b =>
      cases ru
      refine PySem.P.repr_of_bool ⟨.str _, H, I.tok _, ⟨_, rfl⟩, ?_⟩
      simpa [PyData.shown] using q
    | int i =>
      obtain ⟨t, rfl⟩ := ru
      refine PySem.P.repr_of_int (by simpa [PyData.showable] using h1) ⟨.str _, H, I.tok _, ⟨_, rfl⟩, ?_⟩
      simpa [PyData.shown] using q
    | str y =>
      obtain ⟨t, rfl⟩ := ru
      refine PySem.P.repr_of_str ⟨.str _, H, I.tok _, ⟨_, rfl⟩, ?_⟩ ?_
      · simpa [PyData.shown] using q
      · rw [PyData.shown] at h3
        exact le_line h3
    | lst hs ha =>
      cases ru
      exact repr_of_reads' rds h1 (PyData.noDict_hsm nd) hgd (by omega) (fun _ _ e => e) (fun h' u tk hk => ⟨.str _, H, I.kept hk, ⟨_, rfl⟩, q⟩) (le_line h3)
    | tup hs ha =>
      cases ru
      exact repr_of_reads' rds h1 (PyData.noDict_hsm nd) hgd (by omega) (fun _ _ e => e) (fun h' u tk hk => ⟨.str _, H, I.kept hk, ⟨_, rfl⟩, q⟩) (le_line h3)
  · obtain ⟨u, rfl, ru⟩ := vals1 rel
    cases ru
    obtain ⟨_, hsm, vs, kv, o, es, ep, ho, hx, hdat, hrest⟩ := (show ObjOk X.prog X.w H s.heap p (.dK []) from I.hok p _ hp)
    cases kv
    have he : es.toList = [] := by
      obtain ⟨_, hp2, _⟩ := hrest
      first
        | exact List.eq_nil_of_length_eq_zero (by simpa using hp2.length)
        | (cases h : es.toList with
           | nil => rfl
           | cons x y => rw [h] at hp2; cases hp2)
    have rds : Reads s.heap (.ref p) (.dict []) (p :: [] ++ []) := Reads.dict (as := []) (bs := []) (kvs := []) ho hx.1 hdat (by rw [he]; exact .nil) (by rw [he]; exact .nil)
    refine repr_of_reads' rds (by simp [PyData.showable, PyData.showableKv]) (fun _ => ?_) hgd ?_ (fun _ _ e => e) (fun h' u tk hk => ⟨.str _, H, I.kept hk, ⟨_, rfl⟩, q⟩) ?_
    · intro z
      have : sysModules = p := by simpa using z
      rw [this] at hsm
      simp at hsm
    · have : PyData.depth (.dict []) = 1 := by simp [PyData.depth, PyData.depthKv]
      omega
    · exact le_line (by decide +kernel)
def reprD : D → Option D
  | .dct [] => some (.str (PyData.shown (.dict [])))
  | d => (toPy d).bind fun a => if showOk a = true then some (.str a.shown) else none
def reprL : List D → Option D
  | [d] => reprD d
  | _ => none
theorem ad_repr {G : Gm} : AppD G (rRepr G.K) reprL := by
  intro F H xs ds z Q ef r hz q
  unfold reprL at hz
  split at hz
  · rename_i d
    obtain ⟨v, rfl, h⟩ := repL1 r
    unfold reprD at hz
    split at hz
    · cases hz
      cases h with
      | dK h1 h2 =>
        cases h2
        exact .inr ⟨_, rfl, ef _ _ h1, q _ F H (Grow.refl ef) (.str _)⟩
    · rw [Option.bind_eq_some_iff] at hz
      obtain ⟨a, h1, h2⟩ := hz
      split at h2
      · rename_i hs
        cases h2
        exact .inl ⟨v, a, rfl, (h.mono ef).dp h1, hs, q _ F H (Grow.refl ef) (.str _)⟩
      · cases h2
  · cases hz

/-! ### isinstance, a built-in class -/
def tyD : D → Option String
  | .non => some "NoneType"
  | .bl _ => some "bool"
  | .int _ => some "int"
  | .str _ => some "str"
  | .tup _ => some "tuple"
  | .lst _ => some "list"
  | .scr _ => some "list"
  | .dct _ => some "dict"
  | .obj _ _ => none
def isiB (T : String) (d : D) : Option Bool := (tyD d).bind fun t => kitB t T
def eIsi (T : String) (a : EM D) : EM D := bnd a fun d => ofO ((isiB T d).map .bl)
theorem rep_ty {G : Gm} {H : Hp} {v : V} {d : D} {t : String} (r : Rep G H v d) (h : tyD d = some t) : TyX G.K H v (.type t) := by
  cases r with
  | non => cases h; exact .base .non
  | bl b => cases h; exact .base (.bl b)
  | int b => cases h; exact .base (.int b)
  | str b => cases h; exact .base (.str b)
  | tup hs _ =>
    cases h
    rcases hs with (hs | ⟨o, hs⟩) | ⟨o, its, n, hk, hc, _⟩
    · exact .base (.tup hs)
    · exact .fTuple hs
    · exact .kTuple hk hc
  | lst hs _ => cases h; exact .base (.lst hs)
  | scr hs _ =>
    cases h
    rcases hs with (hs | ⟨o, hs⟩) | ⟨o, its, n, hk, hc, _⟩
    · exact .base (.lst hs)
    · exact .base (.frz hs)
    · exact .kList hk hc
  | dK hs _ => cases h; exact .base (.dK hs)
  | ins hs _ => cases h
section
variable {G : Gx} {X : Cx} {W : WX} {a : Expr} {fa : EM D} {p p2 pos : Pos} {x T : Str}
theorem de_isi {Tn : String} (ha : PE X a (eG G fa W)) (hmi : X.mg "isinstance" = none) (hmT : X.mg x = none) (hvT : bootBuiltins x = some (.type Tn)) (hgi : Gl X "isinstance" := by rfl) (hgT : Gl X x := by rfl) (hn : x ≠ "__name__" := by decide) (hd : (x == ("__debug__" : Str)) = false := by decide)
    (he : starEach [a, .Name x p2] X.env = (false, eval a X.env) :: starEach [.Name x p2] X.env := by rfl) (he2 : starEach [.Name x p2] X.env = (false, eval (.Name x p2) X.env) :: starEach [] X.env := by rfl)
    (hpl : (backTo pos (starEach [.Name x p2] X.env)).any (·.1) = false := by rfl) (hK : G.K = X.K := by rfl) : PE X (.Call (.Name "isinstance" p) [a, .Name x p2] [] pos) (eG G (eIsi Tn fa) W) := by
  refine PE.imp (pe_callB call_isi hgi hmi (by decide +kernel) (pa_cons ha (pa_cons (pe_bltn (v := .ty Tn) hgT hmT hvT rfl hn hd) pa_nil he2) he) (he := he) (hpl := hpl)) fun σ H Q h => ?_
  refine eGC_bnd up_true h.c fun v d H1 h1 => ?_
  obtain ⟨F, z, hz, ef, ⟨_, r1⟩, q⟩ := eGC_ofO h1
  rw [Option.map_eq_some_iff] at hz
  obtain ⟨b, hb, rfl⟩ := hz
  unfold isiB at hb
  rw [Option.bind_eq_some_iff] at hb
  obtain ⟨t, ht, hk⟩ := hb
  refine ⟨v, .ty Tn, .type t, .type Tn, b, rfl, .ty Tn, ?_, kit_ty hk, q _ F H1 (Grow.refl ef) (.bl b)⟩
  rw [← hK]
  exact rep_ty (r1.mono ef) ht
end

/-! ### a def that changes its first argument, by its body -/
def entryT (n : Nat) (d : D) (ds : List D) : DEnv := some (.own d) :: (ds.map (fun d => some (.val d)) ++ List.replicate (n - (ds.length + 1)) none)
def fnSemT (m n : Nat) (body : SM) : D → List D → FT := fun d ds => if ds.length + 1 = m then (match body (entryT n d ds) with
  | .rt (.val c) e => (match e[(0 : Nat)]? with
    | some (some (.own d')) => .ok c d'
    | _ => .bad)
  | _ => .bad) else .bad
theorem fnSemT_len {m n : Nat} {body : SM} {d : D} {ds : List D} (h : fnSemT m n body d ds ≠ .bad) : ds.length + 1 = m := by
  unfold fnSemT at h
  split at h
  · assumption
  · exact absurd rfl h
section
variable {G : Gm}
theorem body_okT {N : List Str} {m : Nat} {body : SM} {vs : List V} {H : Hp} {Q : VK} {E : XK} {W : WX} (h : spT G m (fnSemT m N.length body) vs H Q E) :
    ∃ p, sG ⟨G, noXA, some (0, p)⟩ body W { nx := fun _ H' => Q .non H', rt := Q } (L2.start N vs) H := by
  obtain ⟨hl, F, p, vs', d, ds, rfl, ef, ro, hF, rl, q⟩ := h
  have ef' : Ex F (del H p) := fun b o z => by
    rw [del_ne]
    · exact ef b o z
    · intro zz
      subst zz
      rw [hF] at z
      cases z
  have hlen := rl.length
  have hm : ds.length + 1 = m := by simp at hl; omega
  have low : ∀ {i : Nat} {c : Cell}, (ds.map (fun d => some (Cell.val d)) ++ List.replicate (N.length - (ds.length + 1)) none)[i]? = some (some c) → ∃ d, ds[i]? = some d ∧ c = .val d := by
    intro i c z
    by_cases hi : i < ds.length
    · rw [List.getElem?_append_left (by simpa using hi), List.getElem?_map, Option.map_eq_some_iff] at z
      obtain ⟨d', z1, z2⟩ := z
      cases z2
      exact ⟨d', z1, rfl⟩
    · rw [List.getElem?_append_right (by simpa using hi), List.getElem?_replicate] at z
      split at z <;> cases z
  have sget : ∀ {i : Nat} {v : V}, vs'[i]? = some v → (L2.start N (.ref p :: vs'))[i + 1]? = some (some v) := by
    intro i v z
    have hi : i < vs'.length := (List.getElem?_eq_some_iff.mp z).1
    rw [start_get N (.ref p :: vs') (i + 1) (by simpa using hi), List.getElem?_cons_succ, z]
    rfl
  refine ⟨p, del H p, F, F, entryT N.length d ds, ?_, ?_⟩
  · exact {
      bh := fun b o z => by
        by_cases hb : b = p
        · subst hb
          rw [del_same] at z
          cases z
        · rw [del_ne hb] at z
          exact z
      f0 := Ex.refl F
      fh := ef
      fr := fun a o z => .inl ⟨o, z⟩
      len := by simp [entryT, L2.start]; omega
      val := fun i d' z => by
        cases i with
        | zero => cases z
        | succ i =>
          obtain ⟨d2, z1, z2⟩ := low (show _ = some (some (Cell.val d')) from z)
          cases z2
          obtain ⟨v, h1, h2⟩ := rl.get z1
          exact ⟨v, sget h1, h2⟩
      own := fun i d' z => by
        cases i with
        | zero =>
          cases z
          exact ⟨p, by simp [L2.start], ro, hF, del_same⟩
        | succ i =>
          obtain ⟨d2, z1, z2⟩ := low (show _ = some (some (Cell.own d')) from z)
          cases z2
      sep := fun i j d1 d2 p' hij z1 z2 => by
        cases i with
        | zero =>
          cases j with
          | zero => exact absurd rfl hij
          | succ j =>
            obtain ⟨d3, z3, z4⟩ := low (show _ = some (some (Cell.own d2)) from z2)
            cases z4
        | succ i =>
          obtain ⟨d3, z3, z4⟩ := low (show _ = some (some (Cell.own d1)) from z1)
          cases z4
      exc := fun i c fs z => by
        cases i with
        | zero => cases z
        | succ i =>
          obtain ⟨d2, z1, z2⟩ := low (show _ = some (some (Cell.exc c fs)) from z)
          cases z2
      pin := fun i p' d' hb z => by
        cases hb
        simp [L2.start] }
  · unfold fnSemT at q
    rw [if_pos hm] at q
    cases hb : body (entryT N.length d ds) with
    | rt c e =>
      rw [hb] at q
      cases c with
      | val cv =>
        cases he : e[(0 : Nat)]? with
        | none =>
          simp only [he] at q
        | some o =>
          cases o with
          | none => simp only [he] at q
          | some cell =>
            cases cell with
            | own d' =>
              simp only [he] at q
              intro v σ' F' H' r rc
              obtain ⟨p', h1, h2, h3, h4⟩ := r.own 0 d' he
              have hp := r.pin 0 p d' rfl he
              rw [h1] at hp
              cases hp
              exact q v F' H' r.bh r.f0 r.fh r.fr h3 h2 rc
            | val _ => simp only [he] at q
            | exc _ _ => simp only [he] at q
      | own _ => exact q.elim
      | exc _ _ => exact q.elim
    | nx e => rw [hb] at q; exact q.elim
    | bk e => rw [hb] at q; exact q.elim
    | ct e => rw [hb] at q; exact q.elim
    | er c fs e => rw [hb] at q; exact q.elim
    | bad => rw [hb] at q; exact q.elim
end
end DL
end

section
set_option Elab.async false
set_option linter.all false
set_option maxRecDepth 100000
set_option maxHeartbeats 2000000
/-! DLA: defs as they stand; an error's __init__; the end of a law. -/
namespace DL
open PySem L2 PyProof.Rows PySem.Spec
section
variable {P : Program} {w : World} {K : PySem.W.Frag} {mg : Str → Option Value} {base : Heap} {cl : Nat → Addr}
/-- Base.__init__(self, text); self.f = f -/
theorem init_ok {C fI : Addr} {qual f m : Str} {st : Stmt} {fd : FuncData} (F : Fun K "__init__" qual st fI fd) (T : OexC K C) (hno : PySem.W.findIn K (.ref C) f = some none) (S : FnScope ["self", f] ["self", f] (defScope st))
    (hb : ∀ (cdv : Value) (A : Around) (outer : List PySem.Env) (s : Shared) (H : Hp) (E : XK), PSs (cxOf (L2.CX P w) P w K mg base ["self", f] qual (defScope st) fI cdv A outer s H E) (defBody st) (tSeq (tDrop (tVeI K (tCons (tVar 0) (tCons (tC (.str m)) tNil)))) (tOst K f (tVar 0) (tVar 1)))) :
    FnOk P w K mg base (L2.CX P w) 1 fI fd ["self", f] (spE C f) := by
  refine F.okX S (fun vs H Q E h => ?_) fun cdv A outer s H vs Q E hr h => ⟨_, hb cdv A outer s H E, ?_⟩
  · obtain ⟨a, u, rfl, _⟩ := h
    rfl
  · obtain ⟨a, u, rfl, h1, h2⟩ := h
    exact ⟨_, rfl, a, C, _, rfl, (by show 1 ≤ 1000; decide), T, h1, _, rfl, _, rfl, a, C, rfl, T, hno, .inl ⟨h1, fun dx h3 h4 => h2 dx h3 h4⟩⟩
/-- an error's class with one field, as it stands -/
structure ErrT (K : PySem.W.Frag) (mg : Str → Option Value) (x qual f : Str) (st : Stmt) (C : Addr) : Prop where
  ox : OexC K C
  xf : XfC K C
  no : PySem.W.findIn K (.ref C) f = some none
  gl : mg x = some (.ref C)
  ini : ∃ fI fd, PySem.W.findIn K (.ref C) "__init__" = some (some (.ref fI)) ∧ PySem.W.typeIn K (.ref fI) = some (.type "function") ∧ Fun K "__init__" qual st fI fd
/-- the base of such errors -/
structure NetT (K : PySem.W.Frag) (mg : Str → Option Value) (x : Str) : Prop where
  ex : ∃ N, PySem.W.readsIn K N (.type "type") = true ∧ PySem.W.specialIn K (.ref N) "__getattribute__" = some (some (.builtin "type.__getattribute__")) ∧ PySem.W.findCls K (.ref N) (.type "type") "__init__" = some (.val (.builtin "ValueError.__init__")) ∧ mg x = some (.ref N)
/-- a def of data as it stands -/
structure Def (P : Program) (w : World) (K : PySem.W.Frag) (mg : Str → Option Value) (base : Heap) (cl : Nat → Addr) (x : Str) (k n : Nat) (Φ : List D → FR) (dds : List D) : Prop where
  ex : ∃ (f : Addr) (fd : FuncData) (ps : List Str) (ds : List Value) (dvs : List V), FnG P w K mg base k f fd ps (spF ⟨P, w, K, cl⟩ n Φ) ∧ mg x = some (.ref f) ∧ PySem.W.keepIn K (.ref f) = true ∧ Binds K fd ps ds ∧ Vals dvs ds ∧ ∀ F, RepL ⟨P, w, K, cl⟩ F dvs dds
  len : ∀ ds, Φ ds ≠ .bad → ds.length = n
structure Fits (X : Cx) (P : Program) (w : World) (K : PySem.W.Frag) (mg : Str → Option Value) (base : Heap) (A : Around) : Prop where
  p : X.prog = P
  w : X.w = w
  k : X.K = K
  m : X.mg = mg
  b : X.base = base
  a : X.A = A
theorem Def.cal {X : Cx} {A : Around} {x : Str} {k k' n : Nat} {Φ : List D → FR} {dds : List D} (h : Def P w K mg base cl x k n Φ dds) (hr : Room k' A) (hk : k ≤ k' := by decide) (hX : Fits X P w K mg base A := by exact ⟨rfl, rfl, rfl, rfl, rfl, rfl⟩) : Cal ⟨P, w, K, cl⟩ X x n Φ dds := by
  obtain ⟨e1, e2, e3, e4, e5, e6⟩ := hX
  subst e1 e2 e3 e4 e5 e6
  obtain ⟨f, fd, ps, ds, dvs, h1, h2, h3, h4, h5, h6⟩ := h.ex
  exact ⟨⟨k, f, fd, ps, ds, dvs, h1, hr.mono hk, h2, h3, h4, h5, h6⟩, fun ds hb => by rw [← List.length_append]; exact h.len _ hb⟩
structure DefT (P : Program) (w : World) (K : PySem.W.Frag) (mg : Str → Option Value) (base : Heap) (cl : Nat → Addr) (x : Str) (k n : Nat) (Φ : D → List D → FT) : Prop where
  ex : ∃ (f : Addr) (fd : FuncData) (ps : List Str), FnG P w K mg base k f fd ps (spT ⟨P, w, K, cl⟩ n Φ) ∧ mg x = some (.ref f) ∧ PySem.W.keepIn K (.ref f) = true ∧ Binds K fd ps []
  len : ∀ d ds, Φ d ds ≠ .bad → ds.length + 1 = n
theorem DefT.cal {X : Cx} {A : Around} {x : Str} {k k' n : Nat} {Φ : D → List D → FT} (h : DefT P w K mg base cl x k n Φ) (hr : Room k' A) (hk : k ≤ k' := by decide) (hX : Fits X P w K mg base A := by exact ⟨rfl, rfl, rfl, rfl, rfl, rfl⟩) : CalT ⟨P, w, K, cl⟩ X x n Φ := by
  obtain ⟨e1, e2, e3, e4, e5, e6⟩ := hX
  subst e1 e2 e3 e4 e5 e6
  obtain ⟨f, fd, ps, h1, h2, h3, h4⟩ := h.ex
  exact ⟨⟨k, f, fd, ps, h1, hr.mono hk, h2, h3, h4⟩, h.len⟩
/-- what binds: every parameter is written -/
abbrev BindN (x : Str) (st : Stmt) (ps : List Str) : Prop := ∀ (kV doc pm : Value) (an : Option Addr) (cdv ct : Value) (us : List Value), us.length = ps.length → bindArgs (PySem.W.fnOf x x (defArgs st) (defBody st) (defScope st) .none kV doc pm an cdv ct) ⟨us, []⟩ = pure (ps.zip us)
abbrev HasF (K : PySem.W.Frag) (mg : Str → Option Value) (x : Str) (st : Stmt) : Prop := ∃ f fd, mg x = some (.ref f) ∧ Fun K x x st f fd
theorem def_of {x : Str} {st : Stmt} {N ps : List Str} {m k : Nat} {body : SM} (h : HasF K mg x st) (S : FnScope N ps (defScope st)) (hps : ps.length = m) (hbi : BindN x st ps)
    (hbody : ∀ (f : Addr) (cdv : Value) (A : Around) (outer : List PySem.Env) (s : Shared) (H : Hp) (E : XK), Room k (A.deeper (envOfC x (defScope st) s.heap.objs.size f cdv)) → A.guards = some [] →
      PSs (cxOf (L2.CX P w) P w K mg base N x (defScope st) f cdv A outer s H E) (defBody st) (sG ⟨⟨P, w, K, cl⟩, noXA, none⟩ body (fun cls d _ H' => E cls d H'))) :
    Def P w K mg base cl x (k + 1) m (fnSem m N.length body) [] := by
  obtain ⟨f, fd, hm, F⟩ := h
  refine ⟨⟨f, fd, ps, [], [], ?_, hm, F.kp, F.binds hbi, .nil, fun _ => .nil⟩, fun ds hb => fnSem_len hb⟩
  obtain ⟨oc, od, kV, doc, pm, an, cdv, ct, osl, rfl, lk, hcd⟩ := F.ex
  exact fnG_of lk hcd S (fun vs H Q E hs => hs.1.trans hps.symm) fun A outer s H vs Q E hr hg hs => ⟨_, hbody f cdv A outer s H E hr hg, body_ok hs⟩
theorem defT_of {x : Str} {st : Stmt} {N ps : List Str} {m k : Nat} {body : SM} (h : HasF K mg x st) (S : FnScope N ps (defScope st)) (hps : ps.length = m) (hbi : BindN x st ps)
    (hbody : ∀ (p f : Addr) (cdv : Value) (A : Around) (outer : List PySem.Env) (s : Shared) (H : Hp) (E : XK), Room k (A.deeper (envOfC x (defScope st) s.heap.objs.size f cdv)) → A.guards = some [] →
      PSs (cxOf (L2.CX P w) P w K mg base N x (defScope st) f cdv A outer s H E) (defBody st) (sG ⟨⟨P, w, K, cl⟩, noXA, some (0, p)⟩ body (fun cls d _ H' => E cls d H'))) :
    DefT P w K mg base cl x (k + 1) m (fnSemT m N.length body) := by
  obtain ⟨f, fd, hm, F⟩ := h
  refine ⟨⟨f, fd, ps, ?_, hm, F.kp, F.binds hbi⟩, fun d ds hb => fnSemT_len hb⟩
  obtain ⟨oc, od, kV, doc, pm, an, cdv, ct, osl, rfl, lk, hcd⟩ := F.ex
  refine fnG_of lk hcd S (fun vs H Q E hs => hs.1.trans hps.symm) fun A outer s H vs Q E hr hg hs => ?_
  obtain ⟨p, q⟩ := body_okT (N := N) hs
  exact ⟨_, hbody p f cdv A outer s H E hr hg, q⟩
/-- .. with defaults: n written ones -/
abbrev HasD (K : PySem.W.Frag) (mg : Str → Option Value) (x : Str) (st : Stmt) (dvs : List V) : Prop := ∃ f fd, mg x = some (.ref f) ∧ FunD K x x (defArgs st) (defBody st) (defScope st) dvs [] f fd
abbrev BindD (x : Str) (st : Stmt) (ps : List Str) (n j l : Nat) : Prop := ∀ (T : Addr) (kV doc pm : Value) (an : Option Addr) (cdv ct : Value) (us its : List Value), us.length = n → its.length = l →
      ∃ k, bindArgs (PySem.W.fnOf x x (defArgs st) (defBody st) (defScope st) (.ref T) kV doc pm an cdv ct) ⟨us, []⟩ = seqItems? (.ref T) >>= k ∧ k (some its.toArray) = pure (ps.zip (us ++ its.drop j))
theorem defD_of {x : Str} {st : Stmt} {N ps : List Str} {m k n j : Nat} {body : SM} {dvs : List V} {dds : List D} (h : HasD K mg x st dvs) (S : FnScope N ps (defScope st)) (hps : ps.length = m) (hn : n + (dvs.length - j) = ps.length) (hd : dvs ≠ []) (hbi : BindD x st ps n j dvs.length) (hr : ∀ F, RepL ⟨P, w, K, cl⟩ F (dvs.drop j) dds)
    (hbody : ∀ (f : Addr) (cdv : Value) (A : Around) (outer : List PySem.Env) (s : Shared) (H : Hp) (E : XK), Room k (A.deeper (envOfC x (defScope st) s.heap.objs.size f cdv)) → A.guards = some [] →
      PSs (cxOf (L2.CX P w) P w K mg base N x (defScope st) f cdv A outer s H E) (defBody st) (sG ⟨⟨P, w, K, cl⟩, noXA, none⟩ body (fun cls d _ H' => E cls d H'))) :
    Def P w K mg base cl x (k + 1) m (fnSem m N.length body) dds := by
  obtain ⟨f, fd, hm, F⟩ := h
  obtain ⟨ds, v1, b1⟩ := F.binds1 n j hd hn hbi
  refine ⟨⟨f, fd, ps, ds, dvs.drop j, ?_, hm, F.kp, b1, v1, hr⟩, fun ds hb => fnSem_len hb⟩
  obtain ⟨oc, od, dV, kV, doc, pm, an, cdv, ct, osl, rfl, lk, hcd, _, _⟩ := F.ex
  exact fnG_of lk hcd S (fun vs H Q E hs => hs.1.trans hps.symm) fun A outer s H vs Q E hr hg hs => ⟨_, hbody f cdv A outer s H E hr hg, body_ok hs⟩
end
/-! ### numbers: x *= e -/
def imulD : D → D → Option D := i2 fun i j => if i.natAbs < 18446744073709551616 ∨ j.natAbs < 18446744073709551616 then some (.int (i * j)) else none
theorem od_imul {G : Gm} : OpD G (rI CMul fun i j => .int (i * j)) imulD := od_iC (C' := fun i j => i.natAbs < 18446744073709551616 ∨ j.natAbs < 18446744073709551616) (fun i j h => by
  rcases h with h | h
  · exact .inl ⟨by omega, by omega⟩
  · exact .inr ⟨by omega, by omega⟩) fun i j _ => .int _
def iaddD : D → D → Option D := i2 fun i j => some (.int (i + j))
theorem od_iadd {G : Gm} : OpD G (rI0 fun i j => .int (i + j)) iaddD := od_i0 fun i j _ => .int _
end DL
namespace DL
open PySem L2 PyProof.Rows PySem.Spec
/-- a test that only borrows -/
def tBor (f : EM Bool) : EM Bool := fun env => match f (frzAll env) with
  | .ok (b, _) => .ok (b, env)
  | _ => .bad
theorem dt_bor {G : Gx} {X : Cx} {W : WX} {a : Expr} {f : EM Bool} (h : PT X a (tG G f W)) : PT X a (tG G (tBor f) W) := by
  refine PT.imp h fun σ H Q ⟨B, F0, F, env, rs, p⟩ => ?_
  unfold tBor at p
  split at p
  · rename_i d e1 hf
    refine ⟨H, H, H, frzAll env, rs.all, ?_⟩
    rw [hf]
    intro F' H' rs' e
    exact p F H' (rs.grow ⟨Ex.refl F, rs'.bh, rs.fh.trans rs'.bh, fun a o q => .inl ⟨o, q⟩⟩) (Ex.refl F)
  · exact p.elim
end DL
namespace DL
open PySem L2 PyProof.Rows PySem.Spec
/-- the items of a list, a tuple or the script -/
def iAny (a : EM D) : EM (List D) := bnd a fun d => ofO (match d with
  | .lst xs => some xs
  | .scr xs => some xs
  | .tup xs => some xs
  | _ => none)
theorem PI.or {X : Cx} {tg e : Expr} {t u : TI} (h1 : PI X tg e t) (h2 : PI X tg e u) : PI X tg e (fun σ H R => t σ H R ∨ u σ H R) := ⟨fun pins s σ H R I q => q.elim (h1.run pins s σ H R I) (h2.run pins s σ H R I)⟩
theorem di_any {G : Gx} {X : Cx} {W : WX} {tg a : Expr} {fa : EM D} (h : PE X a (eG G fa W)) (hK : G.K = X.K := by rfl) : PI X tg a (iG G (iAny fa) W) := by
  refine PI.imp (PI.or (di_seq h hK) (di_tup h hK)) fun σ H R ⟨B, F0, F, env, rs, p⟩ => ?_
  unfold iAny bnd at p
  cases hf : fa env with
  | bad => rw [hf] at p; exact p.elim
  | er c fs e =>
    rw [hf] at p
    refine .inl ⟨B, F0, F, env, rs, ?_⟩
    unfold iSeq bnd
    rw [hf]
    exact p
  | ok z =>
    rw [hf] at p
    obtain ⟨d, e⟩ := z
    cases d with
    | lst xs =>
      refine .inl ⟨B, F0, F, env, rs, ?_⟩
      unfold iSeq bnd
      rw [hf]
      exact p
    | scr xs =>
      refine .inl ⟨B, F0, F, env, rs, ?_⟩
      unfold iSeq bnd
      rw [hf]
      exact p
    | tup xs =>
      refine .inr ⟨B, F0, F, env, rs, ?_⟩
      unfold iTupl bnd
      rw [hf]
      exact p
    | _ => exact p.elim
end DL
end

section
set_option Elab.async false
set_option linter.all false
set_option maxRecDepth 100000
set_option maxHeartbeats 2000000
/-! DLB: a law's end, by a promise that wants no guard above it. -/
namespace DL
open PySem L2 PyProof.Rows PySem.Spec
/-- the script at a, as data -/
def scrOf (ns : List Int) : D := .scr (ns.map D.int)
theorem rep_ints {G : Gm} {F : Hp} : ∀ ns : List Int, RepL G F (ns.map V.int) (ns.map D.int)
  | [] => .nil
  | n :: ns => .cons (.int n) (rep_ints ns)
abbrev TrueEnd (s1 : Shared) : Result → Shared → Prop := fun r s' => r = .ok (.ret (.bool true)) ∧ OldK s1.heap s'.heap ∧ s'.os = s1.os ∧ AllBare s'.gens
section
variable {P : Program} {w : World} {K : PySem.W.Frag} {mg mb : Str → Option Value} {k : Nat} {fa a : Addr} {x : Str} {cl : Nat → Addr} {Φ : List D → FR} {s1 : Shared} {us : List Value} {ns : List Int}
/-- over a heap that tracks the script alone, or nothing -/
theorem law_core (KX : K.In s1.heap) (hns : s1.heap.Ns mainGlobals mg) (hb : s1.heap.Ns builtinsNs mb) (hbb : ∀ x : Str, x ≠ "__name__" → mb x = bootBuiltins x) (hlim : s1.heap.NoLimit) (hg : s1.gens = #[])
    (ha : s1.heap.get? a = some { cls := .type "list", data := .seq us.toArray }) (hr : Room k callerA) (hx : mg x = some (.ref fa)) (F : ∀ base : Heap, Def P w K mg base cl x k 1 Φ [])
    (hΦ : Φ [scrOf ns] = .ok (.val (.bl true))) {H : Hp} (hO : Only H) (hS : SqL K H a (ns.map V.int)) (hok : HOk P w H s1.heap) (hA : ∀ b, H b ≠ none → b = a) (hK : H a ≠ none → K.lookup a = none) :
    codeAny (model P w) callerA (.call (.ref fa) ⟨[.ref a], []⟩) (TrueEnd s1) s1 := by
  have free : ∀ {b : Addr} {o : Obj} {es : Array DictEntry} {ep : Nat}, s1.heap.get? b = some o → o.data = .dict es ep → H b = none := by
    intro b o es ep e d
    rcases Option.eq_none_or_eq_some (H b) with q | ⟨u, q⟩
    · exact q
    · have eb : b = a := hA b (by rw [q]; simp)
      rw [eb, ha] at e
      cases e
      exact nomatch (show Data.seq us.toArray _ = Data.dict es ep from d)
  have nsK : ∀ {b : Addr} {m : Str → Option Value}, s1.heap.Ns b m → (hidT s1.heap H).Ns b m := by
    rintro b m ⟨o, es, ep, e, d, r⟩
    exact ⟨o, es, ep, hidT_get e (free e d), d, r⟩
  have kIn : K.In (hidT s1.heap H) := by
    intro b o e
    refine hidT_get (KX b o e) ?_
    rcases Option.eq_none_or_eq_some (H b) with q | ⟨u, q⟩
    · exact q
    · have hq : H b ≠ none := by rw [q]; simp
      have eb : b = a := hA b hq
      subst eb
      rw [hK hq] at e
      cases e
  have md : Mod K mg (hidT s1.heap H) := ⟨kIn, nsK hns, ⟨mb, nsK hb, hbb⟩, by
    obtain ⟨mc, g1, g2⟩ := hlim
    exact ⟨mc, nsK g1, g2⟩⟩
  have e0 : Env0 P w K mg (hidT s1.heap H) callerA [] s1 H :=
    ⟨rfl, md, fun _ _ e => of_hidT e, Nat.le_of_eq (hidT_size _ _), trivial, fun b z => absurd (show b ∈ ([] : List Addr) from z) (by simp), hok, .of_eq hg⟩
  have say : spF ⟨P, w, K, cl⟩ 1 Φ [.ref a] H (fun v _ => v = .bl true) (fun _ _ _ => False) := by
    refine ⟨rfl, H, [scrOf ns], Ex.refl H, .cons (.scr hS (rep_ints ns)) .nil, ?_⟩
    rw [hΦ]
    exact fun v F' H' _ r => rep_bl r
  obtain ⟨f, fd, ps, ds, dvs, fn, hf, _, hbind, hv, hd⟩ := (F (hidT s1.heap H)).ex
  rw [hx] at hf
  cases hf
  cases (show dvs = [] by have z := hd H; cases z; rfl)
  cases hv
  have hps : 1 = ps.length := fn.len _ _ _ _ say
  refine codeAny_mono (fn.run callerA [] s1 H ⟨[.ref a], []⟩ [.ref a] [.ref a] _ _ hr rfl e0 (hbind s1 [.ref a] KX hps) (.cons rfl .nil) say) ?_
  intro r s' h
  cases r with
  | error e =>
    obtain ⟨_, _, _, _, _, _, _, _, _, _, _, _, z⟩ := h
    exact z.elim
  | ok fl =>
    cases fl with
    | next => exact h.elim
    | brk => exact h.elim
    | cont => exact h.elim
    | ret u =>
      obtain ⟨v, H', os, bare, un, hok', r', q⟩ := h
      cases (show v = .bl true from q)
      cases (show u = Value.bool true from r')
      refine ⟨rfl, OldK.of_keep ?_, os, bare⟩
      intro b o e
      rcases hO b with z | ⟨ob, xs, z⟩
      · exact un.keep b o e z (fun y => absurd (show b ∈ ([] : List Addr) from y) (by simp)) (by simp)
      · obtain ⟨e1, _⟩ := hok b _ z
        obtain ⟨e2, _⟩ := hok' b _ (un.frzs b ob _ z)
        rw [e] at e1
        cases e1
        exact e2
theorem law_at (KX : K.In s1.heap) (hns : s1.heap.Ns mainGlobals mg) (hb : s1.heap.Ns builtinsNs mb) (hbb : ∀ x : Str, x ≠ "__name__" → mb x = bootBuiltins x) (hlim : s1.heap.NoLimit) (hg : s1.gens = #[])
    (ha : s1.heap.get? a = some { cls := .type "list", data := .seq us.toArray }) (hi : IntsAre us ns) (hl : ns.length ≤ sizeLine) (hr : Room k callerA) (hx : mg x = some (.ref fa)) (F : ∀ base : Heap, Def P w K mg base cl x k 1 Φ [])
    (hΦ : Φ [scrOf ns] = .ok (.val (.bl true))) : codeAny (model P w) callerA (.call (.ref fa) ⟨[.ref a], []⟩) (TrueEnd s1) s1 := by
  have rv := vals_ints hi
  have hlen := hi.length
  let ob : Obj := { cls := .type "list", data := .seq us.toArray }
  rcases Option.eq_none_or_eq_some (K.lookup a) with hk | ⟨o, hk⟩
  · let H : Hp := fun b => if b = a then some (.frz ob (.lst (ns.map V.int))) else none
    have h1 : H a = some (.frz ob (.lst (ns.map V.int))) := if_pos rfl
    have h2 : ∀ {b}, b ≠ a → H b = none := fun hb => if_neg hb
    refine law_core (H := H) KX hns hb hbb hlim hg ha hr hx F hΦ ?_ (.inl (.inr ⟨ob, h1⟩)) ?_ ?_ fun _ => hk
    · intro b
      by_cases e : b = a
      · subst e
        exact .inr ⟨_, _, h1⟩
      · exact .inl (h2 e)
    · intro b u z
      by_cases e : b = a
      · subst e
        rw [h1] at z
        cases z
        exact ⟨ha, by rw [List.length_map]; exact hl, us, _, rv, ha⟩
      · rw [h2 e] at z
        cases z
    · intro b z
      by_cases e : b = a
      · exact e
      · exact absurd (h2 e) z
  · have e := KX a o hk
    rw [ha] at e
    cases e
    refine law_core (H := fun _ => none) KX hns hb hbb hlim hg ha hr hx F hΦ (fun _ => .inl rfl) ?_ (fun b u z => nomatch z) (fun b z => absurd rfl z) fun z => absurd rfl z
    exact .inr ⟨_, us.toArray, _, hk, rfl, rfl, rfl, by rw [List.size_toArray, hlen]; exact hl, by simpa using rv⟩
end
/-- the head's goal: from the promise of the law's def -/
theorem walk_ofD {l : PySem.W.OpenLaw} {n k : Nat} {q : Program} {loose : List Str} {XP : (Str → Option Value) → Heap → Prop} {YP : World → Heap → Prop} {d : DefRec} {K : Params → PySem.W.Frag} {Φ : List D → FR}
    (hn : l.most = some n) (hn2 : n ≤ sizeLine) (hdf : d.params.defaults = []) (hr : Room k callerA) (hY : ∀ (w : World) (h : Heap), YP w h → (K w.params).In h)
    (F : ∀ (w : World) (mg : Str → Option Value) (h : Heap), (K w.params).In h → h.Ns mainGlobals mg → ∃ cl : Nat → Addr, ∀ base : Heap, Def l.prog w (K w.params) mg base cl d.name k 1 Φ [])
    (hΦ : ∀ ns : List Int, ns.length ≤ n → (∀ z ∈ ns, Builtin.Int.intBits z ≤ 1048576) → Φ [scrOf ns] = .ok (.val (.bl true))) :
    PySem.W.WalkO q loose XP YP l.row.toRowW d [] (fun f vs => PySem.call f vs) := by
  refine Att.attach_callB hn hdf ?_
  intro w s0 s1 mg mb fa o pm cd doc a us ns G Y ho hd hcd hmg hobj hints hlen hbits hg
  obtain ⟨cl, h1⟩ := F w mg _ (hY w _ Y) G.T.g
  exact law_at (hY w _ Y) G.T.g G.T.b G.T.builtins G.T.nolimit hg hobj hints (Nat.le_trans hlen hn2) hr hmg h1 (hΦ ns hlen hbits)
end DL
namespace DL
open PySem L2 PyProof.Rows PySem.Spec
/-- what «except S» says of an error of the class at C -/
theorem exm_by {K : PySem.W.Frag} {C S : Addr} {b : Bool} (h1 : PySem.W.subIn K (.ref C) (.type "BaseException") = some true) (h1' : PySem.W.subIn K (.ref S) (.type "BaseException") = some true) (h2 : PySem.W.isClsIn K S = true) (h3 : PySem.W.typeIn K (.ref S) = some (.type "type")) (h4 : PySem.W.subIn K (.ref C) (.ref S) = some b) :
    PySem.W.exmOne K (.ref C) (.ref S) = some b := by
  have e1 : (PySem.W.subIn K (.ref S) (.type "BaseException") == some true) = true := by rw [h1'] <;> rfl
  have e2 : ((PySem.W.clsIn K S).isSome && PySem.W.typeIn K (.ref S) == some (.type "type")) = true := by
    rw [show (PySem.W.clsIn K S).isSome = true from h2, h3] <;> rfl
  refine Eq.trans (if_pos e1) ?_
  refine Eq.trans (if_pos e2) ?_
  exact h4
end DL
end

section
set_option Elab.async false
set_option linter.all false
set_option maxRecDepth 100000
set_option maxHeartbeats 2000000
/-! DLP: laws of the meanings: loops, small data, repr and == of it. -/
namespace DL
open PySem L2 PyProof.Rows PySem.Spec
/-! ### loops -/
theorem loop_fold {β : Type} {t : TgM} {b : SM} (R : β → DEnv → Prop) (f : β → D → β) : ∀ (ds : List D) (x : β) (env : DEnv), R x env → (∀ x d env, d ∈ ds → R x env → ∃ e1 e2, t d env = some e1 ∧ b e1 = .nx e2 ∧ R (f x d) e2) →
    ∃ e, loopS t b ds env = .nx e ∧ R (ds.foldl f x) e
  | [], x, env, h, _ => ⟨env, rfl, h⟩
  | d :: ds, x, env, h, st => by
    obtain ⟨e1, e2, h1, h2, h3⟩ := st x d env List.mem_cons_self h
    obtain ⟨e, h4, h5⟩ := loop_fold R f ds (f x d) e2 h3 fun x d' env hd => st x d' env (List.mem_cons_of_mem _ hd)
    refine ⟨e, ?_, h5⟩
    unfold loopS
    rw [h1]
    simp only
    rw [h2]
    exact h4
/-- the items of ints -/
theorem loop_ints {β : Type} {t : TgM} {b : SM} (R : β → DEnv → Prop) (f : β → Int → β) (ns : List Int) (x : β) (env : DEnv) (h : R x env) (st : ∀ x i env, i ∈ ns → R x env → ∃ e1 e2, t (.int i) env = some e1 ∧ b e1 = .nx e2 ∧ R (f x i) e2) :
    ∃ e, loopS t b (ns.map D.int) env = .nx e ∧ R (ns.foldl f x) e := by
  obtain ⟨e, h1, h2⟩ := loop_fold R (fun x d => match d with | .int i => f x i | _ => x) (ns.map D.int) x env h (by
    intro x d env hd hR
    obtain ⟨i, hi, rfl⟩ := List.mem_map.mp hd
    exact st x i env hi hR)
  refine ⟨e, h1, ?_⟩
  rw [List.foldl_map] at h2
  exact h2
theorem lc_fold {β : Type} {t : TgM} {vs : List Nat} {f : EM D} (R : β → DEnv → Prop) (g : β → D → D × β) : ∀ (ds : List D) (x : β) (env : DEnv) (acc : List D), R x env → acc.length + ds.length ≤ 1000000 →
    (∀ x d env, d ∈ ds → R x env → ∃ e1 e2, t d env = some e1 ∧ f e1 = .ok ((g x d).1, e2) ∧ R (g x d).2 (wipeE e2 vs)) →
    ∃ e, lcLoop t vs tYs f ds env acc = .ok (acc ++ (ds.foldl (fun (p : List D × β) d => (p.1 ++ [(g p.2 d).1], (g p.2 d).2)) ([], x)).1, e) ∧ R (ds.foldl (fun (p : List D × β) d => (p.1 ++ [(g p.2 d).1], (g p.2 d).2)) ([], x)).2 e
  | [], x, env, acc, h, _, _ => ⟨env, by simp [lcLoop], h⟩
  | d :: ds, x, env, acc, h, hl, st => by
    obtain ⟨e1, e2, h1, h2, h3⟩ := st x d env List.mem_cons_self h
    rw [List.length_cons] at hl
    obtain ⟨e, h4, h5⟩ := lc_fold R g ds (g x d).2 (wipeE e2 vs) (acc ++ [(g x d).1]) h3 (by simp; omega) fun x d' env hd => st x d' env (List.mem_cons_of_mem _ hd)
    have key : ∀ (ds : List D) (l : List D) (x : β), ds.foldl (fun (p : List D × β) d => (p.1 ++ [(g p.2 d).1], (g p.2 d).2)) (l, x) = (l ++ (ds.foldl (fun (p : List D × β) d => (p.1 ++ [(g p.2 d).1], (g p.2 d).2)) ([], x)).1, (ds.foldl (fun (p : List D × β) d => (p.1 ++ [(g p.2 d).1], (g p.2 d).2)) ([], x)).2) := by
      intro ds
      induction ds with
      | nil => intro l x; simp
      | cons d ds ih =>
        intro l x
        rw [List.foldl_cons, ih, List.foldl_cons, ih ([] ++ _)]
        simp
    refine ⟨e, ?_, ?_⟩
    · unfold lcLoop
      rw [h1]
      simp only [tYs]
      rw [h2]
      simp only
      rw [if_pos (by omega), h4, List.foldl_cons, key ds ([] ++ [(g x d).1])]
      simp
    · rw [List.foldl_cons, key ds ([] ++ [(g x d).1])]
      exact h5
/-- .. that only maps -/
theorem lc_map {t : TgM} {vs : List Nat} {f : EM D} (R : DEnv → Prop) (g : D → D) : ∀ (ds : List D) (env : DEnv) (acc : List D), R env → acc.length + ds.length ≤ 1000000 →
    (∀ d env, d ∈ ds → R env → ∃ e1 e2, t d env = some e1 ∧ f e1 = .ok (g d, e2) ∧ R (wipeE e2 vs)) →
    ∃ e, lcLoop t vs tYs f ds env acc = .ok (acc ++ ds.map g, e) ∧ R e
  | [], env, acc, h, _, _ => ⟨env, by simp [lcLoop], h⟩
  | d :: ds, env, acc, h, hl, st => by
    obtain ⟨e1, e2, h1, h2, h3⟩ := st d env List.mem_cons_self h
    rw [List.length_cons] at hl
    obtain ⟨e, h4, h5⟩ := lc_map R g ds (wipeE e2 vs) (acc ++ [g d]) h3 (by simp; omega) fun d' env hd => st d' env (List.mem_cons_of_mem _ hd)
    refine ⟨e, ?_, h5⟩
    unfold lcLoop
    rw [h1]
    simp only [tYs]
    rw [h2]
    simp only
    rw [if_pos (by omega), h4]
    simp
theorem lc2_map {t t1 : TgM} {vs vs1 : List Nat} {fi1 : EM (List D)} {f : EM D} (R : DEnv → Prop) (g : D → List D) : ∀ (ds : List D) (env : DEnv) (acc : List D), R env →
    (∀ d env acc, d ∈ ds → R env → ∃ e1 ds1 e3 e4, t d env = some e1 ∧ fi1 e1 = .ok (ds1, e3) ∧ (acc.length + (g d).length ≤ 1000000 → lcLoop t1 vs1 tYs f ds1 (wipeE e3 vs1) acc = .ok (acc ++ g d, e4)) ∧ R (wipeE e4 vs)) → acc.length + (ds.flatMap g).length ≤ 1000000 →
    ∃ e, lc2Loop t vs tYs fi1 t1 vs1 tYs f ds env acc = .ok (acc ++ ds.flatMap g, e) ∧ R e
  | [], env, acc, h, _, _ => ⟨env, by simp [lc2Loop], h⟩
  | d :: ds, env, acc, h, st, hl => by
    obtain ⟨e1, ds1, e3, e4, h1, h2, h3, h4⟩ := st d env acc List.mem_cons_self h
    rw [List.flatMap_cons, List.length_append] at hl
    obtain ⟨e, h5, h6⟩ := lc2_map R g ds (wipeE e4 vs) (acc ++ g d) h4 (fun d' env acc hd => st d' env acc (List.mem_cons_of_mem _ hd)) (by rw [List.length_append]; omega)
    refine ⟨e, ?_, h6⟩
    unfold lc2Loop
    rw [h1]
    simp only [tYs]
    rw [h2]
    simp only
    rw [h3 (by omega)]
    simp only
    rw [h5]
    simp
theorem rangeL_map : ∀ (n : Nat) (lo : Int), rangeL lo n = (List.range n).map fun (i : Nat) => D.int (lo + i)
  | 0, _ => rfl
  | n + 1, lo => by
    rw [rangeL, rangeL_map n, List.range_succ_eq_map]
    simp only [List.map_cons, List.map_map]
    congr 1
    · simp
    · apply List.map_congr_left
      intro i _
      simp only [Function.comp]
      congr 1
      omega
/-! ### small data -/
theorem strOk_app {x y : Str} (h1 : PyData.strOk x = true) (h2 : PyData.strOk y = true) : PyData.strOk (x ++ y) = true := by
  unfold PyData.strOk at *
  show (x.cps ++ y.cps).all _ = true
  rw [Array.all_append, h1, h2]
  rfl
theorem strOk_of (s : String) : PyData.strOk (Str.ofString s) = true := by
  rw [Str.ofString_eq_toList]
  unfold PyData.strOk
  rw [Array.all_eq_true_iff_forall_mem]
  intro c hc
  have hc := Array.mem_toList_iff.mpr hc
  simp only [List.mem_map] at hc
  obtain ⟨z, _, rfl⟩ := hc
  have := z.valid
  simp only [decide_eq_true_eq]
  rcases this with h | h
  · exact Nat.lt_trans h (by decide)
  · exact h.2
theorem strOk_join : ∀ {ts : List Str}, (∀ t ∈ ts, PyData.strOk t = true) → PyData.strOk (Str.join ", " ts) = true
  | [], _ => by decide +kernel
  | [x], h => h x List.mem_cons_self
  | x :: y :: r, h => strOk_app (strOk_app (h x List.mem_cons_self) (strOk_of _)) (strOk_join fun t ht => h t (List.mem_cons_of_mem _ ht))
theorem strOk_from : ∀ {ts : List Str} {k : Nat} {acc : Str}, PyData.strOk acc = true → (∀ t ∈ ts, PyData.strOk t = true) → PyData.strOk (textFrom k acc ts) = true
  | [], _, _, h, _ => h
  | t :: r, k, acc, h, ht => strOk_from (ts := r) (k := k + 1) (strOk_app (strOk_app h (strOk_of _)) (ht t List.mem_cons_self)) fun u hu => ht u (List.mem_cons_of_mem _ hu)
structure Tiny (k w : Nat) (a : PyData) : Prop where
  lay : a.canLay0 = true
  dep : a.depth ≤ k
  wt : a.weight ≤ w
  sh : a.leavesShort 30 = true
  able : a.showable = true
  ok : PyData.strOk a.shown = true
theorem Tiny.mono {k w k' w' : Nat} {a : PyData} (h : Tiny k w a) (h1 : k ≤ k') (h2 : w ≤ w') : Tiny k' w' a := ⟨h.lay, Nat.le_trans h.dep h1, Nat.le_trans h.wt h2, h.sh, h.able, h.ok⟩
theorem tiny_none : Tiny 0 0 .none := ⟨rfl, by decide, by decide, rfl, rfl, by decide +kernel⟩
theorem tiny_bool (b : Bool) : Tiny 0 0 (.bool b) := by
  cases b
  · exact ⟨rfl, by decide, by decide, rfl, rfl, by decide +kernel⟩
  · exact ⟨rfl, by decide, by decide, rfl, rfl, by decide +kernel⟩
theorem tiny_int {i : Int} (h : i.natAbs < 10 ^ 21) : Tiny 0 70 (.int i) := by
  have hl : i.natAbs.log2 < 70 := by
    by_cases hz : i.natAbs = 0
    · rw [hz]; decide
    · rw [Nat.log2_lt hz]
      exact Nat.lt_trans h (by decide)
  refine ⟨rfl, by simp [PyData.depth], ?_, ?_, ?_, ?_⟩
  · unfold PyData.weight
    split <;> omega
  · simp only [PyData.leavesShort, decide_eq_true_eq]
    have e := int_text_length_le10 (k := 21) (by decide) h
    show (Str.ofString (toString i)).length ≤ 30
    rw [PySem.ofString_length]
    omega
  · simp only [PyData.showable, decide_eq_true_eq]
    omega
  · rw [PyData.shown]
    exact strOk_of _
theorem shownAll_mem : ∀ {xs : List PyData} {t : Str}, t ∈ PyData.shownAll xs → ∃ x ∈ xs, t = x.shown
  | [], t, h => by simp [PyData.shownAll] at h
  | x :: xs, t, h => by
    rw [PyData.shownAll] at h
    rcases List.mem_cons.mp h with h | h
    · exact ⟨x, List.mem_cons_self, h⟩
    · obtain ⟨y, hy, e⟩ := shownAll_mem h
      exact ⟨y, List.mem_cons_of_mem _ hy, e⟩
structure TinyAll (k w : Nat) (xs : List PyData) : Prop where
  lay : PyData.canLayAll0 xs = true
  dep : PyData.depthAll xs ≤ k
  wt : PyData.weightAll xs ≤ xs.length * (w + 1)
  sh : PyData.leavesShortAll 30 xs = true
  able : PyData.showableAll xs = true
theorem tiny_all {k w : Nat} : ∀ {xs : List PyData}, (∀ x ∈ xs, Tiny k w x) → TinyAll k w xs
  | [], _ => ⟨by simp [PyData.canLayAll0], by simp [PyData.depthAll], by simp [PyData.weightAll], by simp [PyData.leavesShortAll], by simp [PyData.showableAll]⟩
  | x :: xs, h => by
    have h1 := h x List.mem_cons_self
    have h2 := tiny_all fun y hy => h y (List.mem_cons_of_mem _ hy)
    refine ⟨by simp [PyData.canLayAll0, h1.lay, h2.lay], ?_, ?_, by simp [PyData.leavesShortAll, h1.sh, h2.sh], by simp [PyData.showableAll, h1.able, h2.able]⟩
    · rw [PyData.depthAll]
      exact Nat.max_le.mpr ⟨h1.dep, h2.dep⟩
    · have a1 := h1.wt
      have a2 := h2.wt
      rw [PyData.weightAll, List.length_cons, Nat.add_mul]
      omega
theorem tiny_tuple {k w n : Nat} {xs : List PyData} (h : ∀ x ∈ xs, Tiny k w x) (hn : xs.length ≤ n) : Tiny (k + 1) (n * (w + 1)) (.tuple xs) := by
  have q := tiny_all h
  have hm := Nat.mul_le_mul_right (w + 1) hn
  refine ⟨by simp only [PyData.canLay0, q.lay], ?_, ?_, by simp only [PyData.leavesShort, q.sh], by simp only [PyData.showable, q.able], ?_⟩
  · rw [PyData.depth]
    have := q.dep
    omega
  · rw [PyData.weight]
    have := q.wt
    omega
  · rw [PyData.shown]
    unfold tupleText
    exact strOk_app (strOk_app (strOk_of _) (strOk_join fun t ht => by obtain ⟨x, hx, rfl⟩ := shownAll_mem ht; exact (h x hx).ok)) (strOk_of _)
theorem tiny_list {k w n : Nat} {xs : List PyData} (h : ∀ x ∈ xs, Tiny k w x) (hn : xs.length ≤ n) : Tiny (k + 1) (n * (w + 1)) (.list xs) := by
  have q := tiny_all h
  have hm := Nat.mul_le_mul_right (w + 1) hn
  refine ⟨by simp only [PyData.canLay0, q.lay], ?_, ?_, by simp only [PyData.leavesShort, q.sh], by simp only [PyData.showable, q.able], ?_⟩
  · rw [PyData.depth]
    have := q.dep
    omega
  · rw [PyData.weight]
    have := q.wt
    omega
  · rw [PyData.shown]
    unfold listText
    exact strOk_app (strOk_from (strOk_of _) (fun t ht => by obtain ⟨x, hx, rfl⟩ := shownAll_mem ht; exact (h x hx).ok)) (strOk_of _)
/-- .. as D -/
structure Tn (k w : Nat) (d : D) : Prop where
  ex : ∃ a, toPy d = some a ∧ Tiny k w a
theorem Tn.mono {k w k' w' : Nat} {d : D} (h : Tn k w d) (h1 : k ≤ k') (h2 : w ≤ w') : Tn k' w' d := by
  obtain ⟨a, e, t⟩ := h.ex
  exact ⟨a, e, t.mono h1 h2⟩
theorem tn_non : Tn 0 0 .non := ⟨.none, by simp [toPy], tiny_none⟩
theorem tn_bl (b : Bool) : Tn 0 0 (.bl b) := ⟨.bool b, by simp [toPy], tiny_bool b⟩
theorem tn_int {i : Int} (h : i.natAbs < 10 ^ 21) : Tn 0 70 (.int i) := ⟨.int i, by simp [toPy], tiny_int h⟩
theorem toPyL_of {P : PyData → Prop} : ∀ {ds : List D}, (∀ d ∈ ds, ∃ a, toPy d = some a ∧ P a) → ∃ as, toPyL ds = some as ∧ (∀ a ∈ as, P a) ∧ as.length = ds.length
  | [], _ => ⟨[], by simp [toPyL], by simp, rfl⟩
  | d :: ds, h => by
    obtain ⟨a, e, p⟩ := h d List.mem_cons_self
    obtain ⟨as, e2, p2, l⟩ := toPyL_of fun x hx => h x (List.mem_cons_of_mem _ hx)
    refine ⟨a :: as, by simp [toPyL, e, e2], ?_, by simp [l]⟩
    intro x hx
    rcases List.mem_cons.mp hx with rfl | hx
    · exact p
    · exact p2 x hx
theorem tn_tup {k w n : Nat} {ds : List D} (h : ∀ d ∈ ds, Tn k w d) (hn : ds.length ≤ n) : Tn (k + 1) (n * (w + 1)) (.tup ds) := by
  obtain ⟨as, e, p, l⟩ := toPyL_of (P := Tiny k w) fun d hd => (h d hd).ex
  exact ⟨.tuple as, by simp [toPy, e], tiny_tuple p (by omega)⟩
theorem tn_lst {k w n : Nat} {ds : List D} (h : ∀ d ∈ ds, Tn k w d) (hn : ds.length ≤ n) : Tn (k + 1) (n * (w + 1)) (.lst ds) := by
  obtain ⟨as, e, p, l⟩ := toPyL_of (P := Tiny k w) fun d hd => (h d hd).ex
  exact ⟨.list as, by simp [toPy, e], tiny_list p (by omega)⟩
/-- a text that == may meet -/
def eqOk (d : D) : Bool := match toPy d with
  | some a => SeqAt.shaped a
  | none => false
theorem eqB_refl {d : D} (h : eqOk d = true) : eqB d d = some true := by
  unfold eqOk at h
  unfold eqB
  split at h
  · rename_i a e
    rw [e]
    simp only [Option.bind_some]
    rw [h]
    simp only [Bool.and_self, if_true]
    rw [SeqAt.eqv_refl a (SeqAt.canLay_of_shaped h)]
  · cases h
theorem Tn.eqOk {k w : Nat} {d : D} (h : Tn k w d) (hk : k ≤ 64) : eqOk d = true := by
  obtain ⟨a, e, t⟩ := h.ex
  unfold DL.eqOk
  rw [e]
  have := t.dep
  simp only [SeqAt.shaped, t.lay, Bool.true_and, decide_eq_true_eq]
  omega
theorem Tn.repr {k w : Nat} {d : D} (h : Tn k w d) (hk : k ≤ 60) (hw : w ≤ 30000) : ∃ s, reprD d = some (.str s) ∧ PyData.strOk s = true := by
  obtain ⟨a, e, t⟩ := h.ex
  have h1 := PyData.shown_le 30 (by decide) a t.sh
  have h2 := t.wt
  have h3 := t.dep
  have ho : showOk a = true := by
    unfold showOk
    simp only [t.able, Bool.true_and, Bool.and_eq_true, decide_eq_true_eq]
    omega
  refine ⟨a.shown, ?_, t.ok⟩
  unfold reprD
  split
  · rw [toPy] at e
    cases e
  · rw [e]
    simp only [Option.bind_some]
    rw [if_pos ho]
theorem eqOk_str {s : Str} (h : PyData.strOk s = true) : eqOk (.str s) = true := by
  simp [eqOk, toPy, SeqAt.shaped, PyData.canLay0, PyData.depth, h]
end DL
end

section
set_option Elab.async false
set_option linter.all false
set_option maxRecDepth 100000
set_option maxHeartbeats 2000000
/-! DLQ: the meanings at an environment, one step each (for simp). -/
namespace DL
open PySem L2 PyProof.Rows PySem.Spec
section
variable {α β : Type} {env e : DEnv} {a b c : EM D} {r fr : EM (List D)} {t u : EM Bool} {k : α → EM β} {x : EM α} {i j : Nat} {d : D} {f : D → D → Option D} {g : D → Option D} {h : List D → Option D} {p q : SM}
theorem q_bnd : bnd x k env = (x env).bind fun z => k z.1 z.2 := rfl
theorem q_ok {z : α} {K : α → Res β} : (Res.ok z).bind K = K z := rfl
theorem q_er {n : Nat} {fs : List (Str × D)} {K : α → Res β} : (Res.er n fs env).bind K = .er n fs env := rfl
theorem q_bad {K : α → Res β} : (Res.bad).bind K = .bad := rfl
theorem q_some {z : α} : ofO (some z) env = .ok (z, env) := rfl
theorem q_none : ofO (none : Option α) env = .bad := rfl
theorem q_eC : eC d env = .ok (d, env) := rfl
theorem q_eV : eV i env = match env[i]? with | some (some (.val d)) => .ok (d, env) | _ => .bad := rfl
theorem q_eZ : eZ i env = match env[i]? with | some (some (.val d)) => .ok (d, env) | some (some (.own d)) => .ok (d, env.set i (some (.val d))) | _ => .bad := rfl
theorem q_eOp : eOp f a b env = (a env).bind fun x => (b x.2).bind fun y => ofO (f x.1 y.1) y.2 := rfl
theorem q_eUn : eUn g a env = (a env).bind fun x => ofO (g x.1) x.2 := rfl
theorem q_aNil : aNil env = .ok ([], env) := rfl
theorem q_aCons : aCons a r env = (a env).bind fun x => (r x.2).bind fun y => .ok (x.1 :: y.1, y.2) := rfl
theorem q_eTup : eTup r env = (r env).bind fun x => ofO (if x.1.length ≤ 1000000 then some (.tup x.1) else none) x.2 := rfl
theorem q_eLst : eLst r env = (r env).bind fun x => ofO (if x.1.length ≤ 1000000 then some (.lst x.1) else none) x.2 := rfl
theorem q_eApp : eApp h r env = (r env).bind fun x => ofO (h x.1) x.2 := rfl
def bOf : D → Option Bool
  | .bl b => some b
  | _ => none
theorem q_toB : toB a env = (a env).bind fun x => ofO (bOf x.1) x.2 := by
  unfold toB bnd
  congr 1
theorem q_bOf {b : Bool} : bOf (.bl b) = some b := rfl
theorem q_tNo : tNo t env = (t env).bind fun x => .ok (!x.1, x.2) := rfl
theorem q_tAn : tAn t u env = (t env).bind fun x => if x.1 = true then u x.2 else .ok (false, x.2) := by
  unfold tAn bnd
  congr 1
  funext x
  obtain ⟨v, w⟩ := x
  cases v <;> rfl
theorem q_tOt : tOt t u env = (t env).bind fun x => if x.1 = true then .ok (true, x.2) else u x.2 := by
  unfold tOt bnd
  congr 1
  funext x
  obtain ⟨v, w⟩ := x
  cases v <;> rfl
theorem q_eIf : eIf t a b env = (t env).bind fun x => if x.1 = true then a x.2 else b x.2 := by
  unfold eIf bnd
  congr 1
  funext x
  obtain ⟨v, w⟩ := x
  cases v <;> rfl
theorem q_eAn : eAn a b env = (toB a env).bind fun x => if x.1 = true then b x.2 else .ok (.bl false, x.2) := by
  unfold eAn bnd
  congr 1
  funext x
  obtain ⟨v, w⟩ := x
  cases v <;> rfl
theorem q_eOt : eOt a b env = (toB a env).bind fun x => if x.1 = true then .ok (.bl true, x.2) else b x.2 := by
  unfold eOt bnd
  congr 1
  funext x
  obtain ⟨v, w⟩ := x
  cases v <;> rfl
theorem q_eNo : eNo a env = (toB a env).bind fun x => .ok (.bl (!x.1), x.2) := rfl
theorem q_eFn {Φ : List D → FR} {dds : List D} : eFn Φ dds r env = (r env).bind fun x => frE x.2 (Φ (x.1 ++ dds)) := rfl
theorem q_eFnO {Φ : List D → FR} {dds : List D} : eFnO Φ dds r env = (r env).bind fun x => frO x.2 (Φ (x.1 ++ dds)) := rfl
theorem q_frv : frE env (.ok (.val d)) = .ok (d, env) := rfl
theorem q_fro : frE env (.ok (.own d)) = .ok (d, env) := rfl
theorem q_fre {n : Nat} {fs : List (Str × D)} : frE env (.er n fs) = .er n fs env := rfl
theorem q_foo : frO env (.ok (.own d)) = .ok (d, env) := rfl
theorem q_foe {n : Nat} {fs : List (Str × D)} : frO env (.er n fs) = .er n fs env := rfl
theorem q_eFnT {Φ : D → List D → FT} {d : D} {r : EM (List D)} {ds : List D} {e2 : DEnv} {d2 c d3 : D} (h1 : env[i]? = some (some (.own d))) (h2 : r env = .ok (ds, e2)) (h3 : e2[i]? = some (some (.own d2))) (h4 : Φ d2 ds = .ok c d3) : eFnT Φ i r env = .ok (c, e2.set i (some (.own d3))) := by
  unfold eFnT
  rw [h1]
  unfold bnd
  rw [h2]
  simp only [Res.bind, h3, h4]
theorem q_sSet : sSet i a env = liftE (a env) fun d e => .nx (e.set i (some (.val d))) := rfl
theorem q_sSetO : sSetO i a env = liftE (a env) fun d e => .nx (e.set i (some (.own d))) := rfl
theorem q_lok {K : α → DEnv → SR} {z : α} : liftE (.ok (z, e)) K = K z e := rfl
theorem q_ler {K : α → DEnv → SR} {n : Nat} {fs : List (Str × D)} : liftE (.er n fs e) K = .er n fs e := rfl
theorem q_sNx : sNx env = .nx env := rfl
theorem q_sSeq : sSeq p q env = match p env with | .nx e => q e | r => r := rfl
theorem q_sIf : sIf t p q env = liftE (t env) fun k e => if k = true then p e else q e := rfl
theorem q_sRet : sRet a env = liftE (a env) fun d e => .rt (.val d) e := rfl
theorem q_sRetF : sRetF a env = liftE (a env) fun d e => .rt (.own d) e := rfl
theorem q_sDo : sDo a env = liftE (a env) fun _ e => .nx e := rfl
theorem q_sRetO : sRetO i env = match env[i]? with | some (some (.own d)) => .rt (.own d) env | some (some (.val d)) => .rt (.val d) env | _ => .bad := rfl
theorem q_sRaise {n : Nat} {f : Str} : sRaise n f a env = liftE (a env) fun d e => .er n [(f, d)] e := rfl
theorem q_sFor {fi : EM (List D)} {tg : TgM} : sFor fi tg p env = liftE (fi env) fun ds e => loopS tg p ds e := rfl
theorem q_sUnp {tg : TgM} : sUnp tg a env = liftE (a env) fun d e => match tg d e with | some e' => .nx e' | none => .bad := rfl
theorem q_sAug : sAug i f a env = match env[i]? with
  | some (some (.val x)) => liftE (a env) fun y e => match f x y with
    | some z => .nx (e.set i (some (.val z)))
    | none => .bad
  | _ => .bad := rfl
theorem q_sApp : sApp i a env = if isOwnL env i = true then (liftE (a env) fun d e => match e[i]? with
  | some (some (.own (.lst ds))) => if ds.length < 1000000 then .nx (e.set i (some (.own (.lst (ds ++ [d]))))) else .bad
  | _ => .bad) else .bad := rfl
theorem q_sSetI : sSetI i a b env = liftE (a env) fun d e => if isOwnL e i = true then liftE (b e) (setI i d) else .bad := rfl
theorem q_isOwn : isOwnL env i = match env[i]? with | some (some (.own (.lst _))) => true | _ => false := rfl
theorem q_setI {d k : D} : setI i d k env = match env[i]?, k with
  | some (some (.own (.lst ds))), .int n => if 0 ≤ n ∧ n < ds.length then .nx (env.set i (some (.own (.lst (ds.set n.toNat d))))) else .bad
  | _, _ => .bad := rfl
theorem q_eIsi {T : String} : eIsi T a env = (a env).bind fun x => ofO ((isiB T x.1).map .bl) x.2 := rfl
def itemsOf : D → Option (List D)
  | .lst xs => some xs
  | .scr xs => some xs
  | .tup xs => some xs
  | _ => none
theorem q_iAny : iAny a env = (a env).bind fun x => ofO (itemsOf x.1) x.2 := by
  unfold iAny bnd
  congr 1
theorem q_it1 {xs : List D} : itemsOf (.lst xs) = some xs := rfl
theorem q_it2 {xs : List D} : itemsOf (.scr xs) = some xs := rfl
theorem q_it3 {xs : List D} : itemsOf (.tup xs) = some xs := rfl
def r1Of : List D → Option (List D)
  | [.int j] => if -4611686018427387904 ≤ j ∧ j < 4611686018427387904 then some (rangeL 0 j.toNat) else none
  | _ => none
theorem q_iR1 : iR1 r env = (r env).bind fun x => ofO (r1Of x.1) x.2 := by
  rfl
theorem q_r1 {j : Int} (h : 0 ≤ j) (h2 : j < 4611686018427387904) : r1Of [.int j] = some (rangeL 0 j.toNat) := if_pos ⟨by omega, h2⟩
def zpOf : List D → Option (List D)
  | [.lst xs, .lst ys] => some (zipL xs ys)
  | [.tup xs, .tup ys] => some (zipL xs ys)
  | _ => none
theorem q_iZp : iZp r env = (r env).bind fun x => ofO (zpOf x.1) x.2 := by
  rfl
theorem q_zp {xs ys : List D} : zpOf [.tup xs, .tup ys] = some (zipL xs ys) := rfl
theorem q_eLc {fi : EM (List D)} {vs : List Nat} {tg : TgM} {tc : EM Bool} : eLc fi vs tg tc a env = (fi env).bind fun x => match lcLoop tg vs tc a x.1 (wipeE x.2 vs) [] with
  | .ok (acc, e2) => .ok (.lst acc, restE x.2 e2 vs)
  | _ => .bad := rfl
theorem q_eLc2 {fi fi1 : EM (List D)} {vs vs1 : List Nat} {tg tg1 : TgM} {tc tc1 : EM Bool} : eLc2 fi vs tg tc fi1 vs1 tg1 tc1 a env = (fi env).bind fun x => match lc2Loop tg vs tc fi1 tg1 vs1 tc1 a x.1 (wipeE x.2 vs) [] with
  | .ok (acc, e2) => .ok (.lst acc, restE x.2 e2 vs)
  | _ => .bad := rfl
theorem q_eBor : eBor a env = match a (frzAll env) with
  | .ok (d, _) => if isScal d = true then .ok (d, env) else .bad
  | _ => .bad := rfl
theorem q_tBor : tBor t env = match t (frzAll env) with
  | .ok (b, _) => .ok (b, env)
  | _ => .bad := rfl
theorem q_oNone : oNone env = .ok (none, env) := rfl
def iOf : D → Option (Option Int)
  | .int i => some (some i)
  | _ => none
theorem q_oSome : oSome a env = (a env).bind fun x => ofO (iOf x.1) x.2 := by
  rfl
theorem q_iOf {i : Int} : iOf (.int i) = some (some i) := rfl
theorem q_eSl {lo hi : EM (Option Int)} : eSl a lo hi env = (a env).bind fun x => (lo x.2).bind fun y => (hi y.2).bind fun z => ofO (sliceD x.1 y.1 z.1) z.2 := rfl
theorem q_sTry {n : Nat} {isa : Nat → Nat → Bool} {hs : List (Nat × Option Nat × SM)} : sTry n isa p hs env = match p env with
  | .er c fs e => if c < n then runH isa c fs e hs else .bad
  | r => r := rfl
theorem q_eXf {n : Nat} {f : Str} : eXf i n f env = match env[i]? with
  | some (some (.exc c fs)) => if c = n then (match fs.lookup f with
    | some d => .ok (d, env)
    | none => .bad) else .bad
  | _ => .bad := rfl
end
section
variable {i j : Int}
theorem q_lt : ltD (.int i) (.int j) = some (.bl (decide (i < j))) := rfl
theorem q_le : leD (.int i) (.int j) = some (.bl (decide (i ≤ j))) := rfl
theorem q_gt : gtD (.int i) (.int j) = some (.bl (decide (j < i))) := rfl
theorem q_ge : geD (.int i) (.int j) = some (.bl (decide (j ≤ i))) := rfl
theorem q_sub : subD (.int i) (.int j) = some (.int (i - j)) := rfl
theorem q_add : addD (.int i) (.int j) = some (.int (i + j)) := rfl
theorem q_iadd : iaddD (.int i) (.int j) = some (.int (i + j)) := rfl
theorem q_fdiv : fdivD (.int i) (.int j) = if 0 < j ∧ j.natAbs.log2 < 9000 then some (.int (i / j)) else none := rfl
theorem q_mod : modD (.int i) (.int j) = if 0 < j then some (.int (i % j)) else none := rfl
theorem q_pow : powD (.int i) (.int j) = if 0 ≤ j ∧ j ≤ 1000000 ∧ i.natAbs < 18446744073709551616 then some (.int (i ^ j.toNat)) else none := rfl
theorem q_imul : imulD (.int i) (.int j) = if i.natAbs < 18446744073709551616 ∨ j.natAbs < 18446744073709551616 then some (.int (i * j)) else none := rfl
theorem q_mul : mulD (.int i) (.int j) = if i.natAbs < 18446744073709551616 ∨ j.natAbs < 18446744073709551616 ∨ i.natAbs.log2 + j.natAbs.log2 < 1000000 then some (.int (i * j)) else none := rfl
theorem q_neg : negD (.int i) = some (.int (-i)) := rfl
theorem q_addT {xs ys : List D} (h : xs.length + ys.length ≤ 1000000) : addD (.tup xs) (.tup ys) = some (.tup (xs ++ ys)) := if_pos h
theorem q_addL {xs ys : List D} (h : xs.length + ys.length ≤ 1000000) : addD (.lst xs) (.lst ys) = some (.lst (xs ++ ys)) := if_pos h
theorem q_is {a b : Bool} : isD (.bl a) (.bl b) = some (.bl (decide (a = b))) := rfl
theorem q_nis {a b : Bool} : notIsD (.bl a) (.bl b) = some (.bl (!decide (a = b))) := rfl
theorem q_eq {d e : D} : eqD d e = (eqB d e).map .bl := rfl
theorem q_ne {d e : D} : neD d e = (eqB d e).map fun b => .bl (!b) := rfl
end
/-- a def at its arguments -/
theorem q_fn {m n : Nat} {p : SM} {ds : List D} (h : ds.length = m) : fnSem m n p ds = match p (entry n ds) with
  | .nx _ => .ok (.val .non)
  | .rt (.exc _ _) _ => .bad
  | .rt c _ => .ok c
  | .er c fs _ => .er c fs
  | _ => .bad := if_pos h
end DL
end

section
set_option Elab.async false
set_option linter.all false
set_option maxRecDepth 100000
set_option maxHeartbeats 8000000
/-! what each def of the law lettersback_k01_sizes_and_values computes (printed by gen.py) -/
namespace K01
open PySem L2 PyProof.Rows PySem.Spec DL
def nE : Nat := 4
def isa : Nat → Nat → Bool
  | 0, 0 => true
  | 1, 1 => true
  | 2, 2 => true
  | 3, 3 => true
  | _, _ => false
def m_is_integer : SM :=
    sRet (eAn (eIsi "int" (eV 0)) (eAn (eNo (eIsi "bool" (eV 0))) (eOp geD (eV 0) (eV 1))))
def F_is_integer : List D → FR := fnSem 2 2 m_is_integer

def m_is_size : SM :=
    sRet (eAn (eFn F_is_integer [] (aCons (eV 0) (aCons (eC (.int 1)) (aNil)))) (eOp leD (eV 0) (eC (.int 4))))
def F_is_size : List D → FR := fnSem 1 1 m_is_size

def m_is_sizes : SM :=
    sRet (eAn (eIsi "tuple" (eV 0)) (eAn (eOp leD (eApp lenD (aCons (eV 0) (aNil))) (eC (.int 30))) (eApp allD (aCons (eLc (iAny (eV 0)) [1] (tgN 1) (tYs) (eFn F_is_size [] (aCons (eV 1) (aNil)))) (aNil)))))
def F_is_sizes : List D → FR := fnSem 1 2 m_is_sizes

def m_check_sizes : SM :=
    sIf (tNo (toB (eFn F_is_sizes [] (aCons (eV 0) (aNil))))) (sRaise 0 "value" (eV 0)) (sNx)
def F_check_sizes : List D → FR := fnSem 1 1 m_check_sizes

def m_product : SM :=
    sSeq (sSet 1 (eC (.int 1)))
    (sSeq (sFor (iAny (eV 0)) (tgN 2) (sAug 1 imulD (eV 2)))
    (sRet (eV 1)))
def F_product : List D → FR := fnSem 1 3 m_product

def m_size_product : SM :=
    sSeq (sDo (eFn F_check_sizes [] (aCons (eV 0) (aNil))))
    (sRet (eFn F_product [] (aCons (eV 0) (aNil))))
def F_size_product : List D → FR := fnSem 1 1 m_size_product

def m_is_values : SM :=
    sSeq (sIf (tOt (tNo (toB (eIsi "tuple" (eV 1)))) (toB (eOp neD (eApp lenD (aCons (eV 1) (aNil))) (eApp lenD (aCons (eV 0) (aNil)))))) (sRet (eC (.bl false))) (sNx))
    (sRet (eApp allD (aCons (eLc (iZp (aCons (eV 1) (aCons (eV 0) (aNil)))) [2, 3] (tgT (tgCons (tgN 2) (tgCons (tgN 3) (tgNil)))) (tYs) (eAn (eFn F_is_integer [(.int 0)] (aCons (eV 2) (aNil))) (eOp ltD (eV 2) (eV 3)))) (aNil))))
def F_is_values : List D → FR := fnSem 2 4 m_is_values

def m_check_values : SM :=
    sIf (tNo (toB (eFn F_is_values [] (aCons (eV 0) (aCons (eV 1) (aNil)))))) (sRaise 1 "value" (eV 1)) (sNx)
def F_check_values : List D → FR := fnSem 2 2 m_check_values

def m_index_of : SM :=
    sSeq (sDo (eFn F_check_sizes [] (aCons (eV 0) (aNil))))
    (sSeq (sDo (eFn F_check_values [] (aCons (eV 0) (aCons (eV 1) (aNil)))))
    (sSeq (sSet 2 (eC (.int 0)))
    (sSeq (sFor (iZp (aCons (eV 0) (aCons (eV 1) (aNil)))) (tgT (tgCons (tgN 3) (tgCons (tgN 4) (tgNil)))) (sSet 2 (eOp addD (eOp mulD (eV 2) (eV 3)) (eV 4))))
    (sRet (eV 2)))))
def F_index_of : List D → FR := fnSem 2 5 m_index_of

def m_values_at : SM :=
    sSeq (sSet 2 (eFn F_size_product [] (aCons (eV 0) (aNil))))
    (sSeq (sIf (tOt (tNo (toB (eFn F_is_integer [(.int 0)] (aCons (eV 1) (aNil))))) (toB (eOp geD (eV 1) (eV 2)))) (sRaise 2 "value" (eV 1)) (sNx))
    (sSeq (sSetO 3 (eLst (aNil)))
    (sSeq (sFor (iAny (eV 0)) (tgN 4) (sSeq (sAug 2 fdivD (eV 4))
    (sSeq (sUnp (tgT (tgCons (tgN 5) (tgCons (tgN 1) (tgNil)))) (eApp divmodD (aCons (eV 1) (aCons (eV 2) (aNil)))))
    (sApp 3 (eV 5)))))
    (sRet (eApp tupleD (aCons (eZ 3) (aNil)))))))
def F_values_at : List D → FR := fnSem 2 6 m_values_at

def m_check_product : SM :=
    sIf (toB (eOp gtD (eV 0) (eC (.int 1024)))) (sRaise 3 "count" (eV 0)) (sNx)
def F_check_product : List D → FR := fnSem 1 1 m_check_product

def m_all_values : SM :=
    sSeq (sDo (eFn F_check_product [] (aCons (eFn F_size_product [] (aCons (eV 0) (aNil))) (aNil))))
    (sSeq (sSetO 1 (eLst (aCons (eTup (aNil)) (aNil))))
    (sSeq (sFor (iAny (eV 0)) (tgN 2) (sSetO 1 (eLc2 (iAny (eZ 1)) [3, 4] (tgN 3) (tYs) (iR1 (aCons (eV 2) (aNil))) [4] (tgN 4) (tYs) (eOp addD (eV 3) (eTup (aCons (eV 4) (aNil)))))))
    (sRetO 1)))
def F_all_values : List D → FR := fnSem 1 5 m_all_values

def m__law_pool : SM :=
    sSeq (sSet 2 (eC (.int 0)))
    (sSeq (sIf (toB (eOp ltD (eV 1) (eApp lenD (aCons (eV 0) (aNil))))) (sSet 2 (eApp absD (aCons (eOp idxD (eV 0) (eV 1)) (aNil)))) (sNx))
    (sSeq (sSet 3 (eOp modD (eOp mulD (eOp addD (eOp addD (eOp addD (eOp modD (eV 2) (eC (.int 2147483629))) (eOp mulD (eOp mulD (eC (.int 7919)) (eV 1)) (eV 1))) (eOp mulD (eC (.int 31)) (eV 1))) (eC (.int 17))) (eC (.int 48271))) (eC (.int 2147483647))))
    (sRetF (eLst (aCons (eOp mulD (eV 2) (eApp toIntD (aCons (eOp geD (eV 2) (eOp powD (eC (.int 10)) (eC (.int 18)))) (aNil)))) (aCons (eOp modD (eOp mulD (eV 3) (eV 3)) (eC (.int 2147483629))) (aNil)))))))
def F__law_pool : List D → FR := fnSem 2 4 m__law_pool

def m__law_take : SM :=
    sSeq (sIf (toB (eOp gtD (eBor (eOp idxD (eV 0) (eC (.int 0)))) (eC (.int 0)))) (sSeq (sSet 2 (eOp modD (eBor (eOp idxD (eV 0) (eC (.int 0)))) (eV 1)))
    (sSeq (sSetI 0 (eOp fdivD (eBor (eOp idxD (eV 0) (eC (.int 0)))) (eV 1)) (eC (.int 0)))
    (sRet (eV 2)))) (sNx))
    (sSeq (sSetI 0 (eOp modD (eOp addD (eOp mulD (eBor (eOp idxD (eV 0) (eC (.int 1)))) (eC (.int 48271))) (eC (.int 12345))) (eC (.int 2147483647))) (eC (.int 1)))
    (sRet (eOp modD (eOp fdivD (eOp modD (eOp mulD (eBor (eOp idxD (eV 0) (eC (.int 1)))) (eBor (eOp idxD (eV 0) (eC (.int 1))))) (eC (.int 2147483629))) (eC (.int 64))) (eV 1))))
def F__law_take : D → List D → FT := fnSemT 2 3 m__law_take

def m__law_worths : SM :=
    sSeq (sSet 1 (eLst (aCons (eTup (aNil)) (aNil))))
    (sSeq (sFor (iAny (eV 0)) (tgN 2) (sSeq (sSet 3 (eLst (aNil)))
    (sSeq (sFor (iAny (eV 1)) (tgN 4) (sSet 3 (eOp addD (eV 3) (eLc (iR1 (aCons (eV 2) (aNil))) [5] (tgN 5) (tYs) (eOp addD (eV 4) (eTup (aCons (eV 5) (aNil))))))))
    (sSet 1 (eV 3)))))
    (sRet (eV 1)))
def F__law_worths : List D → FR := fnSem 1 6 m__law_worths

def m__law_told : SM :=
    sTry nE isa (sSeq (sIf (toB (eOp eqD (eV 0) (eC (.int 0)))) (sRet (eLst (aCons (eC (.str "told")) (aCons (eFn F_size_product [] (aCons (eV 1) (aNil))) (aNil))))) (sNx))
    (sSeq (sIf (toB (eOp eqD (eV 0) (eC (.int 1)))) (sRet (eLst (aCons (eC (.str "told")) (aCons (eFn F_index_of [] (aCons (eV 1) (aCons (eV 2) (aNil)))) (aNil))))) (sNx))
    (sSeq (sIf (toB (eOp eqD (eV 0) (eC (.int 2)))) (sRet (eLst (aCons (eC (.str "told")) (aCons (eFn F_values_at [] (aCons (eV 1) (aCons (eV 2) (aNil)))) (aNil))))) (sNx))
    (sRet (eLst (aCons (eC (.str "told")) (aCons (eFn F_all_values [] (aCons (eV 1) (aNil))) (aNil))))))))
    [(0, some 3, sRet (eLst (aCons (eC (.str "sizes")) (aCons (eApp reprL (aCons (eXf 3 0 "value") (aNil))) (aNil))))),
    (1, some 3, sRet (eLst (aCons (eC (.str "worths")) (aCons (eApp reprL (aCons (eXf 3 1 "value") (aNil))) (aNil))))),
    (2, some 3, sRet (eLst (aCons (eC (.str "number")) (aCons (eApp reprL (aCons (eXf 3 2 "value") (aNil))) (aNil))))),
    (3, some 3, sRet (eLst (aCons (eC (.str "wide")) (aCons (eXf 3 3 "count") (aNil)))))]
def F__law_told : List D → FR := fnSem 3 4 m__law_told

def m__law_good_right : SM :=
    sSeq (sSet 2 (eC (.int 1)))
    (sSeq (sFor (iAny (eV 0)) (tgN 3) (sSet 2 (eOp mulD (eV 2) (eV 3))))
    (sSeq (sSet 4 (eFn F__law_worths [] (aCons (eV 0) (aNil))))
    (sSeq (sSetO 5 (eFnO F_all_values [] (aCons (eV 0) (aNil))))
    (sSeq (sIf (tOt (toB (eOp notIsD (eFn F_is_sizes [] (aCons (eV 0) (aNil))) (eC (.bl true)))) (tOt (toB (eOp neD (eFn F__law_told [] (aCons (eC (.int 0)) (aCons (eV 0) (aCons (eC .non) (aNil))))) (eLst (aCons (eC (.str "told")) (aCons (eV 2) (aNil)))))) (tBor (toB (eOp neD (eV 5) (eV 4)))))) (sRet (eC (.bl false))) (sNx))
    (sSeq (sApp 5 (eC .non))
    (sSeq (sIf (tOt (toB (eOp notIsD (eFn F_is_values [] (aCons (eV 0) (aCons (eOp idxD (eV 4) (eV 1)) (aNil)))) (eC (.bl true)))) (toB (eOp neD (eFn F__law_told [] (aCons (eC (.int 1)) (aCons (eV 0) (aCons (eOp idxD (eV 4) (eV 1)) (aNil))))) (eLst (aCons (eC (.str "told")) (aCons (eV 1) (aNil))))))) (sRet (eC (.bl false))) (sNx))
    (sRet (eAn (eOp eqD (eFn F__law_told [] (aCons (eC (.int 2)) (aCons (eV 0) (aCons (eV 1) (aNil))))) (eLst (aCons (eC (.str "told")) (aCons (eOp idxD (eV 4) (eV 1)) (aNil))))) (eOp eqD (eFn F_all_values [] (aCons (eV 0) (aNil))) (eV 4))))))))))
def F__law_good_right : List D → FR := fnSem 2 6 m__law_good_right

def m__law_bad_right : SM :=
    sSeq (sSet 3 (eFn F__law_worths [] (aCons (eV 1) (aNil))))
    (sSeq (sSet 4 (eFnT F__law_take 0 (aCons (eOp addD (eApp lenD (aCons (eV 1) (aNil))) (eC (.int 1))) (aNil))))
    (sSeq (sSet 5 (eOp idxD (eLst (aCons (eC (.int 0)) (aCons (eC (.int 5)) (aCons (eC (.bl true)) (aCons (eC .non) (aCons (eC (.str "1")) (aCons (eTup (aCons (eC (.int 1)) (aNil))) (aCons (eUn negD (eC (.int 1))) (aCons (eOp powD (eC (.int 10)) (eC (.int 20))) (aNil)))))))))) (eFnT F__law_take 0 (aCons (eC (.int 8)) (aNil)))))
    (sSeq (sFor (iAny (eLst (aCons (eOp addD (eOp addD (eSl (eV 1) (oNone) (oSome (eV 4))) (eTup (aCons (eV 5) (aNil)))) (eSl (eV 1) (oSome (eV 4)) (oNone))) (aCons (eApp listD (aCons (eV 1) (aNil))) (aCons (eC .non) (aCons (eC (.int 3)) (aCons (eOp mulD (eTup (aCons (eC (.int 1)) (aNil))) (eC (.int 31))) (aCons (eC (.str "")) (aCons (eC (.dct [])) (aNil)))))))))) (tgN 6) (sSeq (sIf (toB (eOp notIsD (eFn F_is_sizes [] (aCons (eV 6) (aNil))) (eC (.bl false)))) (sRet (eC (.bl false))) (sNx))
    (sIf (toB (eOp neD (eLc (iR1 (aCons (eC (.int 4)) (aNil))) [9] (tgN 9) (tYs) (eFn F__law_told [] (aCons (eV 9) (aCons (eV 6) (aCons (eC .non) (aNil)))))) (eOp mulD (eLst (aCons (eLst (aCons (eC (.str "sizes")) (aCons (eApp reprL (aCons (eV 6) (aNil))) (aNil)))) (aNil))) (eC (.int 4))))) (sRet (eC (.bl false))) (sNx))))
    (sSeq (sSet 7 (eOp idxD (eV 3) (eV 2)))
    (sSeq (sSet 8 (eLst (aCons (eOp addD (eV 7) (eTup (aCons (eC (.int 0)) (aNil)))) (aCons (eApp listD (aCons (eV 7) (aNil))) (aCons (eC .non) (aCons (eC (.int 0)) (aCons (eC (.str "")) (aCons (eC (.dct [])) (aNil)))))))))
    (sSeq (sIf (toB (eOp neD (eV 7) (eTup (aNil)))) (sSeq (sSet 4 (eFnT F__law_take 0 (aCons (eApp lenD (aCons (eV 7) (aNil))) (aNil))))
    (sSeq (sSet 5 (eOp idxD (eLst (aCons (eOp idxD (eV 1) (eV 4)) (aCons (eUn negD (eC (.int 1))) (aCons (eC (.bl true)) (aCons (eC (.bl false)) (aCons (eC .non) (aCons (eC (.str "0")) (aCons (eTup (aCons (eC (.int 0)) (aNil))) (aCons (eOp powD (eC (.int 10)) (eC (.int 20))) (aNil)))))))))) (eFnT F__law_take 0 (aCons (eC (.int 8)) (aNil)))))
    (sSet 8 (eOp addD (eV 8) (eLst (aCons (eOp addD (eOp addD (eSl (eV 7) (oNone) (oSome (eV 4))) (eTup (aCons (eV 5) (aNil)))) (eSl (eV 7) (oSome (eOp addD (eV 4) (eC (.int 1)))) (oNone))) (aCons (eSl (eV 7) (oSome (eC (.int 1))) (oNone)) (aNil)))))))) (sNx))
    (sSeq (sFor (iAny (eV 8)) (tgN 6) (sIf (tOt (toB (eOp notIsD (eFn F_is_values [] (aCons (eV 1) (aCons (eV 6) (aNil)))) (eC (.bl false)))) (toB (eOp neD (eFn F__law_told [] (aCons (eC (.int 1)) (aCons (eV 1) (aCons (eV 6) (aNil))))) (eLst (aCons (eC (.str "worths")) (aCons (eApp reprL (aCons (eV 6) (aNil))) (aNil))))))) (sRet (eC (.bl false))) (sNx)))
    (sSeq (sFor (iAny (eLst (aCons (eApp lenD (aCons (eV 3) (aNil))) (aCons (eUn negD (eC (.int 1))) (aCons (eC (.bl true)) (aCons (eC (.bl false)) (aCons (eC .non) (aCons (eC (.str "0")) (aCons (eTup (aCons (eC (.int 0)) (aNil))) (aCons (eLst (aNil)) (aCons (eOp addD (eApp lenD (aCons (eV 3) (aNil))) (eOp powD (eC (.int 10)) (eC (.int 20)))) (aNil)))))))))))) (tgN 6) (sIf (toB (eOp neD (eFn F__law_told [] (aCons (eC (.int 2)) (aCons (eV 1) (aCons (eV 6) (aNil))))) (eLst (aCons (eC (.str "number")) (aCons (eApp reprL (aCons (eV 6) (aNil))) (aNil)))))) (sRet (eC (.bl false))) (sNx)))
    (sRet (eC (.bl true)))))))))))
def F__law_bad_right : D → List D → FT := fnSemT 3 10 m__law_bad_right

def m_law : SM :=
    sSeq (sFor (iR1 (aCons (eApp maxD (aCons (eC (.int 1)) (aCons (eApp minD (aCons (eC (.int 12)) (aCons (eApp lenD (aCons (eV 0) (aNil))) (aNil)))) (aNil)))) (aNil))) (tgN 1) (sSeq (sSetO 2 (eFnO F__law_pool [] (aCons (eV 0) (aCons (eV 1) (aNil)))))
    (sSeq (sSet 3 (eApp tupleD (aCons (eLc (iR1 (aCons (eFnT F__law_take 2 (aCons (eC (.int 6)) (aNil))) (aNil))) [5] (tgN 5) (tYs) (eOp addD (eC (.int 1)) (eFnT F__law_take 2 (aCons (eC (.int 4)) (aNil))))) (aNil))))
    (sSeq (sSet 4 (eFnT F__law_take 2 (aCons (eApp lenD (aCons (eFn F__law_worths [] (aCons (eV 3) (aNil))) (aNil))) (aNil))))
    (sIf (tOt (tNo (toB (eFn F__law_good_right [] (aCons (eV 3) (aCons (eV 4) (aNil)))))) (tNo (toB (eFnT F__law_bad_right 2 (aCons (eV 3) (aCons (eV 4) (aNil))))))) (sRet (eC (.bl false))) (sNx))))))
    (sSeq (sIf (tOt (toB (eOp neD (eFn F__law_told [] (aCons (eC (.int 3)) (aCons (eOp mulD (eTup (aCons (eC (.int 4)) (aNil))) (eC (.int 6))) (aCons (eC .non) (aNil))))) (eLst (aCons (eC (.str "wide")) (aCons (eC (.int 4096)) (aNil)))))) (toB (eOp neD (eFn F__law_told [] (aCons (eC (.int 0)) (aCons (eOp mulD (eTup (aCons (eC (.int 4)) (aNil))) (eC (.int 30))) (aCons (eC .non) (aNil))))) (eLst (aCons (eC (.str "told")) (aCons (eOp powD (eC (.int 4)) (eC (.int 30))) (aNil))))))) (sRet (eC (.bl false))) (sNx))
    (sSeq (sIf (toB (eOp neD (eFn F__law_told [] (aCons (eC (.int 2)) (aCons (eOp mulD (eTup (aCons (eC (.int 4)) (aNil))) (eC (.int 30))) (aCons (eOp subD (eOp powD (eC (.int 4)) (eC (.int 30))) (eC (.int 1))) (aNil))))) (eLst (aCons (eC (.str "told")) (aCons (eOp mulD (eTup (aCons (eC (.int 3)) (aNil))) (eC (.int 30))) (aNil)))))) (sRet (eC (.bl false))) (sNx))
    (sSeq (sIf (toB (eOp neD (eOp idxD (eFn F__law_told [] (aCons (eC (.int 1)) (aCons (eOp mulD (eTup (aCons (eC (.int 4)) (aNil))) (eC (.int 30))) (aCons (eOp mulD (eTup (aCons (eC (.int 3)) (aNil))) (eC (.int 30))) (aNil))))) (eC (.int 1))) (eOp subD (eOp powD (eC (.int 4)) (eC (.int 30))) (eC (.int 1))))) (sRet (eC (.bl false))) (sNx))
    (sRet (eAn (eOp eqD (eFn F__law_told [] (aCons (eC (.int 3)) (aCons (eOp mulD (eTup (aCons (eC (.int 1)) (aNil))) (eC (.int 30))) (aCons (eC .non) (aNil))))) (eLst (aCons (eC (.str "told")) (aCons (eLst (aCons (eOp mulD (eTup (aCons (eC (.int 0)) (aNil))) (eC (.int 30))) (aNil))) (aNil))))) (eOp isD (eFn F_is_sizes [] (aCons (eOp mulD (eTup (aCons (eC (.int 1)) (aNil))) (eC (.int 30))) (aNil))) (eC (.bl true))))))))
def F_law : List D → FR := fnSem 1 6 m_law
end K01
end

section
set_option Elab.async false
set_option linter.all false
set_option maxRecDepth 100000
set_option maxHeartbeats 8000000
/-! the walk (printed by gen.py) -/
namespace K01
open PySem L2 PyProof.Rows PySem.Spec DL
def top (i : Nat) : Stmt := PySem.Challenge.pw_lettersback_k01_sizes_and_values.main.body.getD i (.Pass ⟨0, 0, 0, 0⟩)
abbrev s_is_integer : Stmt := top 10
theorem sc_is_integer : FnScope ["value", "minimum"] ["value", "minimum"] (defScope s_is_integer) := ⟨rfl, rfl, rfl, by decide +kernel, rfl, by decide +kernel, by decide +kernel⟩

abbrev s_is_size : Stmt := top 11
theorem sc_is_size : FnScope ["value"] ["value"] (defScope s_is_size) := ⟨rfl, rfl, rfl, by decide +kernel, rfl, by decide +kernel, by decide +kernel⟩

abbrev s_is_sizes : Stmt := top 12
theorem sc_is_sizes : FnScope ["value", "size"] ["value"] (defScope s_is_sizes) := ⟨rfl, rfl, rfl, by decide +kernel, rfl, by decide +kernel, by decide +kernel⟩

abbrev s_check_sizes : Stmt := top 13
theorem sc_check_sizes : FnScope ["value"] ["value"] (defScope s_check_sizes) := ⟨rfl, rfl, rfl, by decide +kernel, rfl, by decide +kernel, by decide +kernel⟩

abbrev s_product : Stmt := top 14
theorem sc_product : FnScope ["numbers", "result", "number"] ["numbers"] (defScope s_product) := ⟨rfl, rfl, rfl, by decide +kernel, rfl, by decide +kernel, by decide +kernel⟩

abbrev s_size_product : Stmt := top 15
theorem sc_size_product : FnScope ["sizes"] ["sizes"] (defScope s_size_product) := ⟨rfl, rfl, rfl, by decide +kernel, rfl, by decide +kernel, by decide +kernel⟩

abbrev s_is_values : Stmt := top 16
theorem sc_is_values : FnScope ["sizes", "value", "item", "size"] ["sizes", "value"] (defScope s_is_values) := ⟨rfl, rfl, rfl, by decide +kernel, rfl, by decide +kernel, by decide +kernel⟩

abbrev s_check_values : Stmt := top 17
theorem sc_check_values : FnScope ["sizes", "value"] ["sizes", "value"] (defScope s_check_values) := ⟨rfl, rfl, rfl, by decide +kernel, rfl, by decide +kernel, by decide +kernel⟩

abbrev s_index_of : Stmt := top 18
theorem sc_index_of : FnScope ["sizes", "values", "result", "size", "item"] ["sizes", "values"] (defScope s_index_of) := ⟨rfl, rfl, rfl, by decide +kernel, rfl, by decide +kernel, by decide +kernel⟩

abbrev s_values_at : Stmt := top 19
theorem sc_values_at : FnScope ["sizes", "index", "remaining_product", "result", "size", "item"] ["sizes", "index"] (defScope s_values_at) := ⟨rfl, rfl, rfl, by decide +kernel, rfl, by decide +kernel, by decide +kernel⟩

abbrev s_check_product : Stmt := top 20
theorem sc_check_product : FnScope ["number"] ["number"] (defScope s_check_product) := ⟨rfl, rfl, rfl, by decide +kernel, rfl, by decide +kernel, by decide +kernel⟩

abbrev s_all_values : Stmt := top 21
theorem sc_all_values : FnScope ["sizes", "result", "size", "prefix", "item"] ["sizes"] (defScope s_all_values) := ⟨rfl, rfl, rfl, by decide +kernel, rfl, by decide +kernel, by decide +kernel⟩

abbrev s__law_pool : Stmt := top 23
theorem sc__law_pool : FnScope ["_law_script", "_law_k", "_law_cell", "_law_mixed"] ["_law_script", "_law_k"] (defScope s__law_pool) := ⟨rfl, rfl, rfl, by decide +kernel, rfl, by decide +kernel, by decide +kernel⟩

abbrev s__law_take : Stmt := top 24
theorem sc__law_take : FnScope ["_law_pool_here", "_law_many", "_law_found"] ["_law_pool_here", "_law_many"] (defScope s__law_take) := ⟨rfl, rfl, rfl, by decide +kernel, rfl, by decide +kernel, by decide +kernel⟩

abbrev s__law_worths : Stmt := top 25
theorem sc__law_worths : FnScope ["_law_sizes", "_law_found", "_law_size", "_law_later", "_law_one", "_law_worth"] ["_law_sizes"] (defScope s__law_worths) := ⟨rfl, rfl, rfl, by decide +kernel, rfl, by decide +kernel, by decide +kernel⟩

abbrev s__law_told : Stmt := top 26
theorem sc__law_told : FnScope ["_law_way", "_law_sizes", "_law_thing", "e"] ["_law_way", "_law_sizes", "_law_thing"] (defScope s__law_told) := ⟨rfl, rfl, rfl, by decide +kernel, rfl, by decide +kernel, by decide +kernel⟩

abbrev s__law_good_right : Stmt := top 27
theorem sc__law_good_right : FnScope ["_law_sizes", "_law_number", "_law_whole", "_law_size", "_law_every", "_law_told_here"] ["_law_sizes", "_law_number"] (defScope s__law_good_right) := ⟨rfl, rfl, rfl, by decide +kernel, rfl, by decide +kernel, by decide +kernel⟩

abbrev s__law_bad_right : Stmt := top 28
theorem sc__law_bad_right : FnScope ["_law_pool_here", "_law_sizes", "_law_number", "_law_every", "_law_at", "_law_odd", "_law_none", "_law_good", "_law_some", "_law_way"] ["_law_pool_here", "_law_sizes", "_law_number"] (defScope s__law_bad_right) := ⟨rfl, rfl, rfl, by decide +kernel, rfl, by decide +kernel, by decide +kernel⟩

abbrev s_law : Stmt := top 29
theorem sc_law : FnScope ["_law_script", "_law_k", "_law_pool_here", "_law_sizes", "_law_number", "_law_turn"] ["_law_script"] (defScope s_law) := ⟨rfl, rfl, rfl, by decide +kernel, rfl, by decide +kernel, by decide +kernel⟩
abbrev i_InvalidSizes : Stmt := inClass (top 2) 0
abbrev i_InvalidValues : Stmt := inClass (top 3) 0
abbrev i_InvalidNumber : Stmt := inClass (top 4) 0
abbrev i_TooWide : Stmt := inClass (top 5) 0
structure Txt (K : PySem.W.Frag) (mg : Str → Option Value) (cl : Nat → Addr) : Prop where
  n_abs : mg "abs" = none
  n_all : mg "all" = none
  n_bool : mg "bool" = none
  n_divmod : mg "divmod" = none
  n_int : mg "int" = none
  n_isinstance : mg "isinstance" = none
  n_len : mg "len" = none
  n_list : mg "list" = none
  n_max : mg "max" = none
  n_min : mg "min" = none
  n_range : mg "range" = none
  n_repr : mg "repr" = none
  n_tuple : mg "tuple" = none
  n_zip : mg "zip" = none
  c_MAX_PRODUCT : ∃ t, mg "MAX_PRODUCT" = some (.int 1024 t)
  c_MAX_SIZE : ∃ t, mg "MAX_SIZE" = some (.int 4 t)
  c_MAX_WIRES : ∃ t, mg "MAX_WIRES" = some (.int 30 t)
  f_is_integer : HasD K mg "is_integer" s_is_integer [.int 0]
  f_is_size : HasF K mg "is_size" s_is_size
  f_is_sizes : HasF K mg "is_sizes" s_is_sizes
  f_check_sizes : HasF K mg "check_sizes" s_check_sizes
  f_product : HasF K mg "product" s_product
  f_size_product : HasF K mg "size_product" s_size_product
  f_is_values : HasF K mg "is_values" s_is_values
  f_check_values : HasF K mg "check_values" s_check_values
  f_index_of : HasF K mg "index_of" s_index_of
  f_values_at : HasF K mg "values_at" s_values_at
  f_check_product : HasF K mg "check_product" s_check_product
  f_all_values : HasF K mg "all_values" s_all_values
  f__law_pool : HasF K mg "_law_pool" s__law_pool
  f__law_take : HasF K mg "_law_take" s__law_take
  f__law_worths : HasF K mg "_law_worths" s__law_worths
  f__law_told : HasF K mg "_law_told" s__law_told
  f__law_good_right : HasF K mg "_law_good_right" s__law_good_right
  f__law_bad_right : HasF K mg "_law_bad_right" s__law_bad_right
  f_law : HasF K mg "law" s_law
  t_NetworkError : NetT K mg "NetworkError"
  e_InvalidSizes : ErrT K mg "InvalidSizes" "InvalidSizes.__init__" "value" i_InvalidSizes (cl 0)
  e_InvalidValues : ErrT K mg "InvalidValues" "InvalidValues.__init__" "value" i_InvalidValues (cl 1)
  e_InvalidNumber : ErrT K mg "InvalidNumber" "InvalidNumber.__init__" "value" i_InvalidNumber (cl 2)
  e_TooWide : ErrT K mg "TooWide" "TooWide.__init__" "count" i_TooWide (cl 3)
  exm : ∀ c c0, c < nE → c0 < nE → PySem.W.exmOne K (.ref (cl c)) (.ref (cl c0)) = some (isa c c0)
theorem sci_InvalidSizes : FnScope ["self", "value"] ["self", "value"] (defScope i_InvalidSizes) := ⟨rfl, rfl, rfl, by decide +kernel, rfl, by decide +kernel, by decide +kernel⟩
theorem err_InvalidSizes {X : Cx} {P : Program} {w : World} {K : PySem.W.Frag} {mg : Str → Option Value} {base : Heap} {A : Around} {cl : Nat → Addr} {k : Nat} (T : Txt K mg cl) (hr : Room k A) (hk : 2 ≤ k := by decide) (hX : Fits X P w K mg base A := by exact ⟨rfl, rfl, rfl, rfl, rfl, rfl⟩) : ErrC ⟨P, w, K, cl⟩ X "InvalidSizes" 0 "value" := by
  obtain ⟨e1, e2, e3, e4, e5, e6⟩ := hX
  subst e1 e2 e3 e4 e5 e6
  obtain ⟨fI, fd, h1, h2, F⟩ := T.e_InvalidSizes.ini
  obtain ⟨N, g1, g2, g3, g4⟩ := T.t_NetworkError.ex
  refine ⟨1, fI, fd, ["self", "value"], T.e_InvalidSizes.ox, h1, h2, init_ok (m := "invalid sizes") F T.e_InvalidSizes.ox T.e_InvalidSizes.no sci_InvalidSizes ?_, hr.mono hk, F.binds fun _ _ _ _ _ _ us hl => match us, hl with | [_, _], _ => rfl, T.e_InvalidSizes.gl⟩
  intro cdv A outer s H E
  exact pss_cons (ps_expr (pe_netinit g1 g2 g3 g4 (pa_cons (pv 0) (pa_cons pe_str pa_nil)))) (pss_one (ps_ost (pv 0) (pv 1)))
theorem sci_InvalidValues : FnScope ["self", "value"] ["self", "value"] (defScope i_InvalidValues) := ⟨rfl, rfl, rfl, by decide +kernel, rfl, by decide +kernel, by decide +kernel⟩
theorem err_InvalidValues {X : Cx} {P : Program} {w : World} {K : PySem.W.Frag} {mg : Str → Option Value} {base : Heap} {A : Around} {cl : Nat → Addr} {k : Nat} (T : Txt K mg cl) (hr : Room k A) (hk : 2 ≤ k := by decide) (hX : Fits X P w K mg base A := by exact ⟨rfl, rfl, rfl, rfl, rfl, rfl⟩) : ErrC ⟨P, w, K, cl⟩ X "InvalidValues" 1 "value" := by
  obtain ⟨e1, e2, e3, e4, e5, e6⟩ := hX
  subst e1 e2 e3 e4 e5 e6
  obtain ⟨fI, fd, h1, h2, F⟩ := T.e_InvalidValues.ini
  obtain ⟨N, g1, g2, g3, g4⟩ := T.t_NetworkError.ex
  refine ⟨1, fI, fd, ["self", "value"], T.e_InvalidValues.ox, h1, h2, init_ok (m := "invalid values") F T.e_InvalidValues.ox T.e_InvalidValues.no sci_InvalidValues ?_, hr.mono hk, F.binds fun _ _ _ _ _ _ us hl => match us, hl with | [_, _], _ => rfl, T.e_InvalidValues.gl⟩
  intro cdv A outer s H E
  exact pss_cons (ps_expr (pe_netinit g1 g2 g3 g4 (pa_cons (pv 0) (pa_cons pe_str pa_nil)))) (pss_one (ps_ost (pv 0) (pv 1)))
theorem sci_InvalidNumber : FnScope ["self", "value"] ["self", "value"] (defScope i_InvalidNumber) := ⟨rfl, rfl, rfl, by decide +kernel, rfl, by decide +kernel, by decide +kernel⟩
theorem err_InvalidNumber {X : Cx} {P : Program} {w : World} {K : PySem.W.Frag} {mg : Str → Option Value} {base : Heap} {A : Around} {cl : Nat → Addr} {k : Nat} (T : Txt K mg cl) (hr : Room k A) (hk : 2 ≤ k := by decide) (hX : Fits X P w K mg base A := by exact ⟨rfl, rfl, rfl, rfl, rfl, rfl⟩) : ErrC ⟨P, w, K, cl⟩ X "InvalidNumber" 2 "value" := by
  obtain ⟨e1, e2, e3, e4, e5, e6⟩ := hX
  subst e1 e2 e3 e4 e5 e6
  obtain ⟨fI, fd, h1, h2, F⟩ := T.e_InvalidNumber.ini
  obtain ⟨N, g1, g2, g3, g4⟩ := T.t_NetworkError.ex
  refine ⟨1, fI, fd, ["self", "value"], T.e_InvalidNumber.ox, h1, h2, init_ok (m := "invalid number") F T.e_InvalidNumber.ox T.e_InvalidNumber.no sci_InvalidNumber ?_, hr.mono hk, F.binds fun _ _ _ _ _ _ us hl => match us, hl with | [_, _], _ => rfl, T.e_InvalidNumber.gl⟩
  intro cdv A outer s H E
  exact pss_cons (ps_expr (pe_netinit g1 g2 g3 g4 (pa_cons (pv 0) (pa_cons pe_str pa_nil)))) (pss_one (ps_ost (pv 0) (pv 1)))
theorem sci_TooWide : FnScope ["self", "count"] ["self", "count"] (defScope i_TooWide) := ⟨rfl, rfl, rfl, by decide +kernel, rfl, by decide +kernel, by decide +kernel⟩
theorem err_TooWide {X : Cx} {P : Program} {w : World} {K : PySem.W.Frag} {mg : Str → Option Value} {base : Heap} {A : Around} {cl : Nat → Addr} {k : Nat} (T : Txt K mg cl) (hr : Room k A) (hk : 2 ≤ k := by decide) (hX : Fits X P w K mg base A := by exact ⟨rfl, rfl, rfl, rfl, rfl, rfl⟩) : ErrC ⟨P, w, K, cl⟩ X "TooWide" 3 "count" := by
  obtain ⟨e1, e2, e3, e4, e5, e6⟩ := hX
  subst e1 e2 e3 e4 e5 e6
  obtain ⟨fI, fd, h1, h2, F⟩ := T.e_TooWide.ini
  obtain ⟨N, g1, g2, g3, g4⟩ := T.t_NetworkError.ex
  refine ⟨1, fI, fd, ["self", "count"], T.e_TooWide.ox, h1, h2, init_ok (m := "too wide") F T.e_TooWide.ox T.e_TooWide.no sci_TooWide ?_, hr.mono hk, F.binds fun _ _ _ _ _ _ us hl => match us, hl with | [_, _], _ => rfl, T.e_TooWide.gl⟩
  intro cdv A outer s H E
  exact pss_cons (ps_expr (pe_netinit g1 g2 g3 g4 (pa_cons (pv 0) (pa_cons pe_str pa_nil)))) (pss_one (ps_ost (pv 0) (pv 1)))
theorem body_is_integer {P : Program} {w : World} {K : PySem.W.Frag} {mg : Str → Option Value} {base : Heap} {cl : Nat → Addr} (T : Txt K mg cl) : ∀ (f : Addr) (cdv : Value) (A : Around) (outer : List PySem.Env) (s : Shared) (H : Hp) (E : XK), Room 0 (A.deeper (envOfC "is_integer" (defScope s_is_integer) s.heap.objs.size f cdv)) → A.guards = some [] →
      PSs (cxOf (L2.CX P w) P w K mg base ["value", "minimum"] "is_integer" (defScope s_is_integer) f cdv A outer s H E) (defBody s_is_integer) (sG ⟨⟨P, w, K, cl⟩, noXA, none⟩ m_is_integer (fun cls d _ H' => E cls d H')) := by
  intro f cdv A outer s H E hr hg
  exact ds_one (ds_ret (de_and (de_isi (de_var (i := 0)) T.n_isinstance T.n_int (by decide +kernel)) (de_and (de_not (de_isi (de_var (i := 0)) T.n_isinstance T.n_bool (by decide +kernel))) (de_and1 (de_cmp op_ge od_ge (de_var (i := 0)) (de_var (i := 1)))))))
theorem ok_is_integer_1 {P : Program} {w : World} {K : PySem.W.Frag} {mg : Str → Option Value} {base : Heap} {cl : Nat → Addr} (T : Txt K mg cl) : Def P w K mg base cl "is_integer" 1 2 F_is_integer [.int 0] :=
  defD_of (k := 0) (n := 1) (j := 0) T.f_is_integer sc_is_integer rfl rfl (by simp) (fun _ _ _ _ _ _ _ us its h1 h2 => match us, its, h1, h2 with | [_], [_], _, _ => ⟨_, rfl, rfl⟩) (fun _ => .cons (.int _) (.nil)) (body_is_integer T)
theorem ok_is_integer_2 {P : Program} {w : World} {K : PySem.W.Frag} {mg : Str → Option Value} {base : Heap} {cl : Nat → Addr} (T : Txt K mg cl) : Def P w K mg base cl "is_integer" 1 2 F_is_integer [] :=
  defD_of (k := 0) (n := 2) (j := 1) T.f_is_integer sc_is_integer rfl rfl (by simp) (fun _ _ _ _ _ _ _ us its h1 h2 => match us, its, h1, h2 with | [_, _], [_], _, _ => ⟨_, rfl, rfl⟩) (fun _ => .nil) (body_is_integer T)

theorem ok_is_size {P : Program} {w : World} {K : PySem.W.Frag} {mg : Str → Option Value} {base : Heap} {cl : Nat → Addr} (T : Txt K mg cl) : Def P w K mg base cl "is_size" 2 1 F_is_size [] := by
  refine def_of (k := 1) T.f_is_size sc_is_size rfl (fun _ _ _ _ _ _ us hl => match us, hl with | [_], _ => rfl) ?_
  intro f cdv A outer s H E hr hg
  exact ds_one (ds_ret (de_and (de_fn (by exact (ok_is_integer_2 T).cal hr) (by exact hg) (takes_of rfl rfl rfl rfl) (da_cons (de_var (i := 0)) (da_cons (de_int) (da_nil)))) (de_and1 (de_cmp op_le od_le (de_var (i := 0)) (de_gint T.c_MAX_SIZE)))))

theorem ok_is_sizes {P : Program} {w : World} {K : PySem.W.Frag} {mg : Str → Option Value} {base : Heap} {cl : Nat → Addr} (T : Txt K mg cl) : Def P w K mg base cl "is_sizes" 3 1 F_is_sizes [] := by
  refine def_of (k := 2) T.f_is_sizes sc_is_sizes rfl (fun _ _ _ _ _ _ us hl => match us, hl with | [_], _ => rfl) ?_
  intro f cdv A outer s H E hr hg
  exact ds_one (ds_ret (de_and (de_isi (de_var (i := 0)) T.n_isinstance T.n_tuple (by decide +kernel)) (de_and (de_cmp op_le od_le (de_callB call_len ad_len T.n_len (by decide +kernel) (da_cons (de_var (i := 0)) (da_nil))) (de_gint T.c_MAX_WIRES)) (de_and1 (de_callB (cr_all rfl) ad_all T.n_all (by decide +kernel) (da_cons (de_frz (df_lc (by rfl) sc_is_sizes.nd (blkOk_by (own := [("size", 1)]) (by kernel_rfl)) (di_any (de_var (i := 0))) (fun _ _ _ _ _ => dg_name sc_is_sizes.nd (i := 1)) (fun _ _ _ _ _ => dts_nil) (fun _ _ _ _ _ => de_fn (by exact (ok_is_size T).cal hr) (by exact hg) takes0 (da_cons (de_var (i := 1)) (da_nil))))) (da_nil)))))))

theorem ok_check_sizes {P : Program} {w : World} {K : PySem.W.Frag} {mg : Str → Option Value} {base : Heap} {cl : Nat → Addr} (T : Txt K mg cl) : Def P w K mg base cl "check_sizes" 4 1 F_check_sizes [] := by
  refine def_of (k := 3) T.f_check_sizes sc_check_sizes rfl (fun _ _ _ _ _ _ us hl => match us, hl with | [_], _ => rfl) ?_
  intro f cdv A outer s H E hr hg
  exact ds_one (ds_if (dt_not (dt_val (de_fn (by exact (ok_is_sizes T).cal hr) (by exact hg) (takes_of rfl rfl rfl rfl) (da_cons (de_var (i := 0)) (da_nil))))) (ds_one (ds_raise (by exact err_InvalidSizes T hr) (by rfl) (takes_of rfl rfl rfl rfl) (de_var (i := 0)))) (ds_nil))

theorem ok_product {P : Program} {w : World} {K : PySem.W.Frag} {mg : Str → Option Value} {base : Heap} {cl : Nat → Addr} (T : Txt K mg cl) : Def P w K mg base cl "product" 1 1 F_product [] := by
  refine def_of (k := 0) T.f_product sc_product rfl (fun _ _ _ _ _ _ us hl => match us, hl with | [_], _ => rfl) ?_
  intro f cdv A outer s H E hr hg
  exact ds_cons (ds_set (i := 1) (de_int) sc_product.nd)
    (ds_cons (ds_for (is := [2]) (passes_of rfl) (by rfl) (di_any (de_var (i := 0))) (dg_name sc_product.nd (i := 2)) (ds_one (ds_aug (i := 1) (de_var (i := 2)) iop_mul od_imul sc_product.nd)))
    (ds_one (ds_ret (de_var (i := 1)))))

theorem ok_size_product {P : Program} {w : World} {K : PySem.W.Frag} {mg : Str → Option Value} {base : Heap} {cl : Nat → Addr} (T : Txt K mg cl) : Def P w K mg base cl "size_product" 5 1 F_size_product [] := by
  refine def_of (k := 4) T.f_size_product sc_size_product rfl (fun _ _ _ _ _ _ us hl => match us, hl with | [_], _ => rfl) ?_
  intro f cdv A outer s H E hr hg
  exact ds_cons (ds_expr (de_fn (by exact (ok_check_sizes T).cal hr) (by exact hg) (takes_of rfl rfl rfl rfl) (da_cons (de_var (i := 0)) (da_nil))))
    (ds_one (ds_ret (de_fn (by exact (ok_product T).cal hr) (by exact hg) (takes_of rfl rfl rfl rfl) (da_cons (de_var (i := 0)) (da_nil)))))

theorem ok_is_values {P : Program} {w : World} {K : PySem.W.Frag} {mg : Str → Option Value} {base : Heap} {cl : Nat → Addr} (T : Txt K mg cl) : Def P w K mg base cl "is_values" 2 2 F_is_values [] := by
  refine def_of (k := 1) T.f_is_values sc_is_values rfl (fun _ _ _ _ _ _ us hl => match us, hl with | [_, _], _ => rfl) ?_
  intro f cdv A outer s H E hr hg
  exact ds_cons (ds_if ((dw_or (dt_not (dt_val (de_isi (de_var (i := 1)) T.n_isinstance T.n_tuple (by decide +kernel)))) (dw_or1 (dt_cmp (op_neD (by exact hr.units)) od_ne (de_callB call_len ad_len T.n_len (by decide +kernel) (da_cons (de_var (i := 1)) (da_nil))) (de_callB call_len ad_len T.n_len (by decide +kernel) (da_cons (de_var (i := 0)) (da_nil)))))).pt) (ds_one (ds_ret (de_bl))) (ds_nil))
    (ds_one (ds_ret (de_callB (cr_all rfl) ad_all T.n_all (by decide +kernel) (da_cons (de_frz (df_lc (by rfl) sc_is_values.nd (blkOk_by (own := [("item", 2), ("size", 3)]) (by kernel_rfl)) (di_zip T.n_zip (da_cons (de_var (i := 1)) (da_cons (de_var (i := 0)) (da_nil)))) (fun _ _ _ _ _ => dg_tup rfl (dgs_cons (dg_name sc_is_values.nd (i := 2)) (dgs_cons (dg_name sc_is_values.nd (i := 3)) (dgs_nil))) (tgLen_cons (tgLen_cons (tgLen_nil)))) (fun _ _ _ _ _ => dts_nil) (fun _ _ _ _ _ => de_and (de_fn (by exact (ok_is_integer_1 T).cal hr) (by exact hg) takes0 (da_cons (de_var (i := 2)) (da_nil))) (de_and1 (de_cmp op_lt od_lt (de_var (i := 2)) (de_var (i := 3))))))) (da_nil)))))

theorem ok_check_values {P : Program} {w : World} {K : PySem.W.Frag} {mg : Str → Option Value} {base : Heap} {cl : Nat → Addr} (T : Txt K mg cl) : Def P w K mg base cl "check_values" 3 2 F_check_values [] := by
  refine def_of (k := 2) T.f_check_values sc_check_values rfl (fun _ _ _ _ _ _ us hl => match us, hl with | [_, _], _ => rfl) ?_
  intro f cdv A outer s H E hr hg
  exact ds_one (ds_if (dt_not (dt_val (de_fn (by exact (ok_is_values T).cal hr) (by exact hg) (takes_of rfl rfl rfl rfl) (da_cons (de_var (i := 0)) (da_cons (de_var (i := 1)) (da_nil)))))) (ds_one (ds_raise (by exact err_InvalidValues T hr) (by rfl) (takes_of rfl rfl rfl rfl) (de_var (i := 1)))) (ds_nil))

theorem ok_index_of {P : Program} {w : World} {K : PySem.W.Frag} {mg : Str → Option Value} {base : Heap} {cl : Nat → Addr} (T : Txt K mg cl) : Def P w K mg base cl "index_of" 5 2 F_index_of [] := by
  refine def_of (k := 4) T.f_index_of sc_index_of rfl (fun _ _ _ _ _ _ us hl => match us, hl with | [_, _], _ => rfl) ?_
  intro f cdv A outer s H E hr hg
  exact ds_cons (ds_expr (de_fn (by exact (ok_check_sizes T).cal hr) (by exact hg) (takes_of rfl rfl rfl rfl) (da_cons (de_var (i := 0)) (da_nil))))
    (ds_cons (ds_expr (de_fn (by exact (ok_check_values T).cal hr) (by exact hg) (takes_of rfl rfl rfl rfl) (da_cons (de_var (i := 0)) (da_cons (de_var (i := 1)) (da_nil)))))
    (ds_cons (ds_set (i := 2) (de_int) sc_index_of.nd)
    (ds_cons (ds_for (is := [3, 4]) (passes_of rfl) (by rfl) (di_zip T.n_zip (da_cons (de_var (i := 0)) (da_cons (de_var (i := 1)) (da_nil)))) (dg_tup rfl (dgs_cons (dg_name sc_index_of.nd (i := 3)) (dgs_cons (dg_name sc_index_of.nd (i := 4)) (dgs_nil))) (tgLen_cons (tgLen_cons (tgLen_nil)))) (ds_one (ds_set (i := 2) (de_bin op_addAll od_add (de_bin op_mulAll od_mul (de_var (i := 2)) (de_var (i := 3))) (de_var (i := 4))) sc_index_of.nd)))
    (ds_one (ds_ret (de_var (i := 2)))))))

theorem ok_values_at {P : Program} {w : World} {K : PySem.W.Frag} {mg : Str → Option Value} {base : Heap} {cl : Nat → Addr} (T : Txt K mg cl) : Def P w K mg base cl "values_at" 6 2 F_values_at [] := by
  refine def_of (k := 5) T.f_values_at sc_values_at rfl (fun _ _ _ _ _ _ us hl => match us, hl with | [_, _], _ => rfl) ?_
  intro f cdv A outer s H E hr hg
  exact ds_cons (ds_set (i := 2) (de_fn (by exact (ok_size_product T).cal hr) (by exact hg) (takes_of rfl rfl rfl rfl) (da_cons (de_var (i := 0)) (da_nil))) sc_values_at.nd)
    (ds_cons (ds_if ((dw_or (dt_not (dt_val (de_fn (by exact (ok_is_integer_1 T).cal hr) (by exact hg) (takes_of rfl rfl rfl rfl) (da_cons (de_var (i := 1)) (da_nil))))) (dw_or1 (dt_cmp op_ge od_ge (de_var (i := 1)) (de_var (i := 2))))).pt) (ds_one (ds_raise (by exact err_InvalidNumber T hr) (by rfl) (takes_of rfl rfl rfl rfl) (de_var (i := 1)))) (ds_nil))
    (ds_cons (ds_setO (i := 3) (df_lst (da_nil)) sc_values_at.nd)
    (ds_cons (ds_for (is := [4]) (passes_of rfl) (by rfl) (di_any (de_var (i := 0))) (dg_name sc_values_at.nd (i := 4)) (ds_cons (ds_aug (i := 2) (de_var (i := 4)) iop_fdivW od_fdiv sc_values_at.nd)
    (ds_cons (ds_unp (is := [5, 1]) (de_callB call_divmodW ad_divmod T.n_divmod (by decide +kernel) (da_cons (de_var (i := 1)) (da_cons (de_var (i := 2)) (da_nil)))) (dg_tup rfl (dgs_cons (dg_name sc_values_at.nd (i := 5)) (dgs_cons (dg_name sc_values_at.nd (i := 1)) (dgs_nil))) (tgLen_cons (tgLen_cons (tgLen_nil)))))
    (ds_one (ds_app (i := 3) (pe_bm PySem.F.plainAttrs_list PySem.F.slot_list_append PySem.F.type_list_append mt_append (pv 3) (pa_cons (de_var (i := 5)) pa_nil)))))))
    (ds_one (ds_ret (de_callTy call_tuple_of ad_tuple T.n_tuple (by decide +kernel) (da_cons (de_varZ (i := 3)) (da_nil))))))))

theorem ok_check_product {P : Program} {w : World} {K : PySem.W.Frag} {mg : Str → Option Value} {base : Heap} {cl : Nat → Addr} (T : Txt K mg cl) : Def P w K mg base cl "check_product" 3 1 F_check_product [] := by
  refine def_of (k := 2) T.f_check_product sc_check_product rfl (fun _ _ _ _ _ _ us hl => match us, hl with | [_], _ => rfl) ?_
  intro f cdv A outer s H E hr hg
  exact ds_one (ds_if (dt_cmp op_gt od_gt (de_var (i := 0)) (de_gint T.c_MAX_PRODUCT)) (ds_one (ds_raise (by exact err_TooWide T hr) (by rfl) (takes_of rfl rfl rfl rfl) (de_var (i := 0)))) (ds_nil))

theorem ok_all_values {P : Program} {w : World} {K : PySem.W.Frag} {mg : Str → Option Value} {base : Heap} {cl : Nat → Addr} (T : Txt K mg cl) : Def P w K mg base cl "all_values" 6 1 F_all_values [] := by
  refine def_of (k := 5) T.f_all_values sc_all_values rfl (fun _ _ _ _ _ _ us hl => match us, hl with | [_], _ => rfl) ?_
  intro f cdv A outer s H E hr hg
  exact ds_cons (ds_expr (de_fn (by exact (ok_check_product T).cal hr) (by exact hg) (takes_of rfl rfl rfl rfl) (da_cons (de_fn (by exact (ok_size_product T).cal hr) (by exact hg) (takes_of rfl rfl rfl rfl) (da_cons (de_var (i := 0)) (da_nil))) (da_nil))))
    (ds_cons (ds_setO (i := 1) (df_lst (da_cons (de_tup (da_nil)) (da_nil))) sc_all_values.nd)
    (ds_cons (ds_for (is := [2]) (passes_of rfl) (by rfl) (di_any (de_var (i := 0))) (dg_name sc_all_values.nd (i := 2)) (ds_one (ds_setLc2 (i := 1) (by rfl) sc_all_values.nd (blkOk_by (own := [("prefix", 3), ("item", 4)]) (by kernel_rfl)) (by decide) (di_any (de_varZ (i := 1))) (fun _ _ _ _ _ => dg_name sc_all_values.nd (i := 3)) (fun _ _ _ _ _ => dts_nil) (fun _ _ _ _ _ => di_range1 T.n_range (da_cons (de_var (i := 2)) (da_nil))) (fun _ _ _ _ _ => dg_name sc_all_values.nd (i := 4)) (fun _ _ _ _ _ => dts_nil) (fun _ _ _ _ _ => de_bin op_addAll od_add (de_var (i := 3)) (de_tup (da_cons (de_var (i := 4)) (da_nil)))) (sw_true rfl rfl rfl (by kernel_rfl)))))
    (ds_one (ds_retO (i := 1)))))

theorem ok__law_pool {P : Program} {w : World} {K : PySem.W.Frag} {mg : Str → Option Value} {base : Heap} {cl : Nat → Addr} (T : Txt K mg cl) : Def P w K mg base cl "_law_pool" 1 2 F__law_pool [] := by
  refine def_of (k := 0) T.f__law_pool sc__law_pool rfl (fun _ _ _ _ _ _ us hl => match us, hl with | [_, _], _ => rfl) ?_
  intro f cdv A outer s H E hr hg
  exact ds_cons (ds_set (i := 2) (de_int) sc__law_pool.nd)
    (ds_cons (ds_if (dt_cmp op_lt od_lt (de_var (i := 1)) (de_callB call_len ad_len T.n_len (by decide +kernel) (da_cons (de_var (i := 0)) (da_nil)))) (ds_one (ds_set (i := 2) (de_callB call_abs ad_abs T.n_abs (by decide +kernel) (da_cons (de_ix (de_var (i := 0)) (de_var (i := 1))) (da_nil))) sc__law_pool.nd)) (ds_nil))
    (ds_cons (ds_set (i := 3) (de_bin op_mod od_mod (de_bin op_mulAll od_mul (de_bin op_addAll od_add (de_bin op_addAll od_add (de_bin op_addAll od_add (de_bin op_mod od_mod (de_var (i := 2)) (de_int)) (de_bin op_mulAll od_mul (de_bin op_mulAll od_mul (de_int) (de_var (i := 1))) (de_var (i := 1)))) (de_bin op_mulAll od_mul (de_int) (de_var (i := 1)))) (de_int)) (de_int)) (de_int)) sc__law_pool.nd)
    (ds_one (ds_retF (df_lst (da_cons (de_bin op_mulAll od_mul (de_var (i := 2)) (de_callTy call_int1 ad_int T.n_int (by decide +kernel) (da_cons (de_cmp op_ge od_ge (de_var (i := 2)) (de_bin op_pow od_pow (de_int) (de_int))) (da_nil)))) (da_cons (de_bin op_mod od_mod (de_bin op_mulAll od_mul (de_var (i := 3)) (de_var (i := 3))) (de_int)) (da_nil))))))))

theorem ok__law_take {P : Program} {w : World} {K : PySem.W.Frag} {mg : Str → Option Value} {base : Heap} {cl : Nat → Addr} (T : Txt K mg cl) : DefT P w K mg base cl "_law_take" 1 2 F__law_take := by
  refine defT_of (k := 0) T.f__law_take sc__law_take rfl (fun _ _ _ _ _ _ us hl => match us, hl with | [_, _], _ => rfl) ?_
  intro p f cdv A outer s H E hr hg
  exact ds_cons (ds_if (dt_cmp op_gt od_gt (de_bor (de_ix (de_var (i := 0)) (de_int))) (de_int)) (ds_cons (ds_set (i := 2) (de_bin op_mod od_mod (de_bor (de_ix (de_var (i := 0)) (de_int))) (de_var (i := 1))) sc__law_take.nd)
    (ds_cons (ds_seti (i := 0) (de_bin op_fdivW od_fdiv (de_bor (de_ix (de_var (i := 0)) (de_int))) (de_var (i := 1))) (de_int))
    (ds_one (ds_ret (de_var (i := 2)))))) (ds_nil))
    (ds_cons (ds_seti (i := 0) (de_bin op_mod od_mod (de_bin op_addAll od_add (de_bin op_mulAll od_mul (de_bor (de_ix (de_var (i := 0)) (de_int))) (de_int)) (de_int)) (de_int)) (de_int))
    (ds_one (ds_ret (de_bin op_mod od_mod (de_bin op_fdivW od_fdiv (de_bin op_mod od_mod (de_bin op_mulAll od_mul (de_bor (de_ix (de_var (i := 0)) (de_int))) (de_bor (de_ix (de_var (i := 0)) (de_int)))) (de_int)) (de_int)) (de_var (i := 1))))))

theorem ok__law_worths {P : Program} {w : World} {K : PySem.W.Frag} {mg : Str → Option Value} {base : Heap} {cl : Nat → Addr} (T : Txt K mg cl) : Def P w K mg base cl "_law_worths" 1 1 F__law_worths [] := by
  refine def_of (k := 0) T.f__law_worths sc__law_worths rfl (fun _ _ _ _ _ _ us hl => match us, hl with | [_], _ => rfl) ?_
  intro f cdv A outer s H E hr hg
  exact ds_cons (ds_set (i := 1) (de_lst (da_cons (de_tup (da_nil)) (da_nil))) sc__law_worths.nd)
    (ds_cons (ds_for (is := [2]) (passes_of rfl) (by rfl) (di_any (de_var (i := 0))) (dg_name sc__law_worths.nd (i := 2)) (ds_cons (ds_set (i := 3) (de_lst (da_nil)) sc__law_worths.nd)
    (ds_cons (ds_for (is := [4]) (passes_of rfl) (by rfl) (di_any (de_var (i := 1))) (dg_name sc__law_worths.nd (i := 4)) (ds_one (ds_set (i := 3) (de_bin op_addAll od_add (de_var (i := 3)) (de_frz (df_lc (by rfl) sc__law_worths.nd (blkOk_by (own := [("_law_worth", 5)]) (by kernel_rfl)) (di_range1 T.n_range (da_cons (de_var (i := 2)) (da_nil))) (fun _ _ _ _ _ => dg_name sc__law_worths.nd (i := 5)) (fun _ _ _ _ _ => dts_nil) (fun _ _ _ _ _ => de_bin op_addAll od_add (de_var (i := 4)) (de_tup (da_cons (de_var (i := 5)) (da_nil))))))) sc__law_worths.nd)))
    (ds_one (ds_set (i := 1) (de_var (i := 3)) sc__law_worths.nd)))))
    (ds_one (ds_ret (de_var (i := 1)))))

theorem ok__law_told {P : Program} {w : World} {K : PySem.W.Frag} {mg : Str → Option Value} {base : Heap} {cl : Nat → Addr} (T : Txt K mg cl) : Def P w K mg base cl "_law_told" 7 3 F__law_told [] := by
  refine def_of (k := 6) T.f__law_told sc__law_told rfl (fun _ _ _ _ _ _ us hl => match us, hl with | [_, _, _], _ => rfl) ?_
  intro f cdv A outer s H E hr hg
  exact ds_one (ds_try (by rfl) (by rfl) sc__law_told.nd (takes_of rfl rfl rfl rfl) (fun W pn xe tk hp => ds_cons (ds_if (dt_cmp (op_eqD (by exact hr.units)) od_eq (de_var (i := 0)) (de_int)) (ds_one (ds_ret (de_lst (da_cons (de_str) (da_cons (de_fn (by exact (ok_size_product T).cal hr) (by exact hg) tk (da_cons (de_var (i := 1)) (da_nil))) (da_nil)))))) (ds_nil))
    (ds_cons (ds_if (dt_cmp (op_eqD (by exact hr.units)) od_eq (de_var (i := 0)) (de_int)) (ds_one (ds_ret (de_lst (da_cons (de_str) (da_cons (de_fn (by exact (ok_index_of T).cal hr) (by exact hg) tk (da_cons (de_var (i := 1)) (da_cons (de_var (i := 2)) (da_nil)))) (da_nil)))))) (ds_nil))
    (ds_cons (ds_if (dt_cmp (op_eqD (by exact hr.units)) od_eq (de_var (i := 0)) (de_int)) (ds_one (ds_ret (de_lst (da_cons (de_str) (da_cons (de_fn (by exact (ok_values_at T).cal hr) (by exact hg) tk (da_cons (de_var (i := 1)) (da_cons (de_var (i := 2)) (da_nil)))) (da_nil)))))) (ds_nil))
    (ds_one (ds_ret (de_lst (da_cons (de_str) (da_cons (de_fn (by exact (ok_all_values T).cal hr) (by exact hg) tk (da_cons (de_var (i := 1)) (da_nil))) (da_nil)))))))))
    (HdD.named ⟨by rfl, by decide, Or.inl T.e_InvalidSizes.gl⟩ (fun c hc => T.exm c 0 hc (by decide)) (i := 3) (by rfl) (by rfl) (fun a oe cls d pn hz hf => ds_one (ds_ret (de_lst (da_cons (de_str) (da_cons (de_callB (cr_repr (by exact hg) (by exact hr.units)) ad_repr T.n_repr (by decide +kernel) (da_cons (de_xf T.e_InvalidSizes.xf T.e_InvalidSizes.no hz hf) (da_nil))) (da_nil))))))
    (HdD.named ⟨by rfl, by decide, Or.inl T.e_InvalidValues.gl⟩ (fun c hc => T.exm c 1 hc (by decide)) (i := 3) (by rfl) (by rfl) (fun a oe cls d pn hz hf => ds_one (ds_ret (de_lst (da_cons (de_str) (da_cons (de_callB (cr_repr (by exact hg) (by exact hr.units)) ad_repr T.n_repr (by decide +kernel) (da_cons (de_xf T.e_InvalidValues.xf T.e_InvalidValues.no hz hf) (da_nil))) (da_nil))))))
    (HdD.named ⟨by rfl, by decide, Or.inl T.e_InvalidNumber.gl⟩ (fun c hc => T.exm c 2 hc (by decide)) (i := 3) (by rfl) (by rfl) (fun a oe cls d pn hz hf => ds_one (ds_ret (de_lst (da_cons (de_str) (da_cons (de_callB (cr_repr (by exact hg) (by exact hr.units)) ad_repr T.n_repr (by decide +kernel) (da_cons (de_xf T.e_InvalidNumber.xf T.e_InvalidNumber.no hz hf) (da_nil))) (da_nil))))))
    (HdD.named ⟨by rfl, by decide, Or.inl T.e_TooWide.gl⟩ (fun c hc => T.exm c 3 hc (by decide)) (i := 3) (by rfl) (by rfl) (fun a oe cls d pn hz hf => ds_one (ds_ret (de_lst (da_cons (de_str) (da_cons (de_xf T.e_TooWide.xf T.e_TooWide.no hz hf) (da_nil))))))
    (HdD.nil))))))

theorem ok__law_good_right {P : Program} {w : World} {K : PySem.W.Frag} {mg : Str → Option Value} {base : Heap} {cl : Nat → Addr} (T : Txt K mg cl) : Def P w K mg base cl "_law_good_right" 8 2 F__law_good_right [] := by
  refine def_of (k := 7) T.f__law_good_right sc__law_good_right rfl (fun _ _ _ _ _ _ us hl => match us, hl with | [_, _], _ => rfl) ?_
  intro f cdv A outer s H E hr hg
  exact ds_cons (ds_set (i := 2) (de_int) sc__law_good_right.nd)
    (ds_cons (ds_for (is := [3]) (passes_of rfl) (by rfl) (di_any (de_var (i := 0))) (dg_name sc__law_good_right.nd (i := 3)) (ds_one (ds_set (i := 2) (de_bin op_mulAll od_mul (de_var (i := 2)) (de_var (i := 3))) sc__law_good_right.nd)))
    (ds_cons (ds_set (i := 4) (de_fn (by exact (ok__law_worths T).cal hr) (by exact hg) (takes_of rfl rfl rfl rfl) (da_cons (de_var (i := 0)) (da_nil))) sc__law_good_right.nd)
    (ds_cons (ds_setO (i := 5) (df_fn (by exact (ok_all_values T).cal hr) (by exact hg) (takes_of rfl rfl rfl rfl) (da_cons (de_var (i := 0)) (da_nil))) sc__law_good_right.nd)
    (ds_cons (ds_if ((dw_or (dt_cmp op_notBl od_notIs (de_fn (by exact (ok_is_sizes T).cal hr) (by exact hg) (takes_of rfl rfl rfl rfl) (da_cons (de_var (i := 0)) (da_nil))) (de_bl)) (dw_or (dt_cmp (op_neD (by exact hr.units)) od_ne (de_fn (by exact (ok__law_told T).cal hr) (by exact hg) (takes_of rfl rfl rfl rfl) (da_cons (de_int) (da_cons (de_var (i := 0)) (da_cons (de_non) (da_nil))))) (de_lst (da_cons (de_str) (da_cons (de_var (i := 2)) (da_nil))))) (dw_or1 (dt_bor (dt_cmp (op_neD (by exact hr.units)) od_ne (de_var (i := 5)) (de_var (i := 4))))))).pt) (ds_one (ds_ret (de_bl))) (ds_nil))
    (ds_cons (ds_app (i := 5) (pe_bm PySem.F.plainAttrs_list PySem.F.slot_list_append PySem.F.type_list_append mt_append (pv 5) (pa_cons (de_non) pa_nil)))
    (ds_cons (ds_if ((dw_or (dt_cmp op_notBl od_notIs (de_fn (by exact (ok_is_values T).cal hr) (by exact hg) (takes_of rfl rfl rfl rfl) (da_cons (de_var (i := 0)) (da_cons (de_ix (de_var (i := 4)) (de_var (i := 1))) (da_nil)))) (de_bl)) (dw_or1 (dt_cmp (op_neD (by exact hr.units)) od_ne (de_fn (by exact (ok__law_told T).cal hr) (by exact hg) (takes_of rfl rfl rfl rfl) (da_cons (de_int) (da_cons (de_var (i := 0)) (da_cons (de_ix (de_var (i := 4)) (de_var (i := 1))) (da_nil))))) (de_lst (da_cons (de_str) (da_cons (de_var (i := 1)) (da_nil))))))).pt) (ds_one (ds_ret (de_bl))) (ds_nil))
    (ds_one (ds_ret (de_and (de_cmp (op_eqD (by exact hr.units)) od_eq (de_fn (by exact (ok__law_told T).cal hr) (by exact hg) (takes_of rfl rfl rfl rfl) (da_cons (de_int) (da_cons (de_var (i := 0)) (da_cons (de_var (i := 1)) (da_nil))))) (de_lst (da_cons (de_str) (da_cons (de_ix (de_var (i := 4)) (de_var (i := 1))) (da_nil))))) (de_and1 (de_cmp (op_eqD (by exact hr.units)) od_eq (de_fn (by exact (ok_all_values T).cal hr) (by exact hg) (takes_of rfl rfl rfl rfl) (da_cons (de_var (i := 0)) (da_nil))) (de_var (i := 4)))))))))))))

theorem ok__law_bad_right {P : Program} {w : World} {K : PySem.W.Frag} {mg : Str → Option Value} {base : Heap} {cl : Nat → Addr} (T : Txt K mg cl) : DefT P w K mg base cl "_law_bad_right" 8 3 F__law_bad_right := by
  refine defT_of (k := 7) T.f__law_bad_right sc__law_bad_right rfl (fun _ _ _ _ _ _ us hl => match us, hl with | [_, _, _], _ => rfl) ?_
  intro p f cdv A outer s H E hr hg
  exact ds_cons (ds_set (i := 3) (de_fn (by exact (ok__law_worths T).cal hr) (by exact hg) (takes_of rfl rfl rfl rfl) (da_cons (de_var (i := 1)) (da_nil))) sc__law_bad_right.nd)
    (ds_cons (ds_set (i := 4) (de_fnT (by exact (ok__law_take T).cal hr) (by exact hg) (takes_of rfl rfl rfl rfl) (da_cons (de_bin op_addAll od_add (de_callB call_len ad_len T.n_len (by decide +kernel) (da_cons (de_var (i := 1)) (da_nil))) (de_int)) (da_nil)) (i := 0)) sc__law_bad_right.nd)
    (ds_cons (ds_set (i := 5) (de_ix (de_lst (da_cons (de_int) (da_cons (de_int) (da_cons (de_bl) (da_cons (de_non) (da_cons (de_str) (da_cons (de_tup (da_cons (de_int) (da_nil))) (da_cons (de_un un_neg ud_neg (de_int)) (da_cons (de_bin op_pow od_pow (de_int) (de_int)) (da_nil)))))))))) (de_fnT (by exact (ok__law_take T).cal hr) (by exact hg) (takes_of rfl rfl rfl rfl) (da_cons (de_int) (da_nil)) (i := 0))) sc__law_bad_right.nd)
    (ds_cons (ds_for (is := [6]) (passes_of rfl) (by rfl) (di_any (de_lst (da_cons (de_bin op_addAll od_add (de_bin op_addAll od_add (de_slice (de_var (i := 1)) (do_none) (do_some (de_var (i := 4)))) (de_tup (da_cons (de_var (i := 5)) (da_nil)))) (de_slice (de_var (i := 1)) (do_some (de_var (i := 4))) (do_none))) (da_cons (de_callTy call_list_of ad_list T.n_list (by decide +kernel) (da_cons (de_var (i := 1)) (da_nil))) (da_cons (de_non) (da_cons (de_int) (da_cons (de_bin op_mulAll od_mul (de_tup (da_cons (de_int) (da_nil))) (de_int)) (da_cons (de_str) (da_cons (de_dict0) (da_nil)))))))))) (dg_name sc__law_bad_right.nd (i := 6)) (ds_cons (ds_if (dt_cmp op_notBl od_notIs (de_fn (by exact (ok_is_sizes T).cal hr) (by exact hg) (takes_of rfl rfl rfl rfl) (da_cons (de_var (i := 6)) (da_nil))) (de_bl)) (ds_one (ds_ret (de_bl))) (ds_nil))
    (ds_one (ds_if (dt_cmp (op_neD (by exact hr.units)) od_ne (de_frz (df_lc (by rfl) sc__law_bad_right.nd (blkOk_by (own := [("_law_way", 9)]) (by kernel_rfl)) (di_range1 T.n_range (da_cons (de_int) (da_nil))) (fun _ _ _ _ _ => dg_name sc__law_bad_right.nd (i := 9)) (fun _ _ _ _ _ => dts_nil) (fun _ _ _ _ _ => de_fn (by exact (ok__law_told T).cal hr) (by exact hg) takes0 (da_cons (de_var (i := 9)) (da_cons (de_var (i := 6)) (da_cons (de_non) (da_nil))))))) (de_bin op_mulAll od_mul (de_lst (da_cons (de_lst (da_cons (de_str) (da_cons (de_callB (cr_repr (by exact hg) (by exact hr.units)) ad_repr T.n_repr (by decide +kernel) (da_cons (de_var (i := 6)) (da_nil))) (da_nil)))) (da_nil))) (de_int))) (ds_one (ds_ret (de_bl))) (ds_nil)))))
    (ds_cons (ds_set (i := 7) (de_ix (de_var (i := 3)) (de_var (i := 2))) sc__law_bad_right.nd)
    (ds_cons (ds_set (i := 8) (de_lst (da_cons (de_bin op_addAll od_add (de_var (i := 7)) (de_tup (da_cons (de_int) (da_nil)))) (da_cons (de_callTy call_list_of ad_list T.n_list (by decide +kernel) (da_cons (de_var (i := 7)) (da_nil))) (da_cons (de_non) (da_cons (de_int) (da_cons (de_str) (da_cons (de_dict0) (da_nil)))))))) sc__law_bad_right.nd)
    (ds_cons (ds_if (dt_cmp (op_neD (by exact hr.units)) od_ne (de_var (i := 7)) (de_tup (da_nil))) (ds_cons (ds_set (i := 4) (de_fnT (by exact (ok__law_take T).cal hr) (by exact hg) (takes_of rfl rfl rfl rfl) (da_cons (de_callB call_len ad_len T.n_len (by decide +kernel) (da_cons (de_var (i := 7)) (da_nil))) (da_nil)) (i := 0)) sc__law_bad_right.nd)
    (ds_cons (ds_set (i := 5) (de_ix (de_lst (da_cons (de_ix (de_var (i := 1)) (de_var (i := 4))) (da_cons (de_un un_neg ud_neg (de_int)) (da_cons (de_bl) (da_cons (de_bl) (da_cons (de_non) (da_cons (de_str) (da_cons (de_tup (da_cons (de_int) (da_nil))) (da_cons (de_bin op_pow od_pow (de_int) (de_int)) (da_nil)))))))))) (de_fnT (by exact (ok__law_take T).cal hr) (by exact hg) (takes_of rfl rfl rfl rfl) (da_cons (de_int) (da_nil)) (i := 0))) sc__law_bad_right.nd)
    (ds_one (ds_set (i := 8) (de_bin op_addAll od_add (de_var (i := 8)) (de_lst (da_cons (de_bin op_addAll od_add (de_bin op_addAll od_add (de_slice (de_var (i := 7)) (do_none) (do_some (de_var (i := 4)))) (de_tup (da_cons (de_var (i := 5)) (da_nil)))) (de_slice (de_var (i := 7)) (do_some (de_bin op_addAll od_add (de_var (i := 4)) (de_int))) (do_none))) (da_cons (de_slice (de_var (i := 7)) (do_some (de_int)) (do_none)) (da_nil))))) sc__law_bad_right.nd)))) (ds_nil))
    (ds_cons (ds_for (is := [6]) (passes_of rfl) (by rfl) (di_any (de_var (i := 8))) (dg_name sc__law_bad_right.nd (i := 6)) (ds_one (ds_if ((dw_or (dt_cmp op_notBl od_notIs (de_fn (by exact (ok_is_values T).cal hr) (by exact hg) (takes_of rfl rfl rfl rfl) (da_cons (de_var (i := 1)) (da_cons (de_var (i := 6)) (da_nil)))) (de_bl)) (dw_or1 (dt_cmp (op_neD (by exact hr.units)) od_ne (de_fn (by exact (ok__law_told T).cal hr) (by exact hg) (takes_of rfl rfl rfl rfl) (da_cons (de_int) (da_cons (de_var (i := 1)) (da_cons (de_var (i := 6)) (da_nil))))) (de_lst (da_cons (de_str) (da_cons (de_callB (cr_repr (by exact hg) (by exact hr.units)) ad_repr T.n_repr (by decide +kernel) (da_cons (de_var (i := 6)) (da_nil))) (da_nil))))))).pt) (ds_one (ds_ret (de_bl))) (ds_nil))))
    (ds_cons (ds_for (is := [6]) (passes_of rfl) (by rfl) (di_any (de_lst (da_cons (de_callB call_len ad_len T.n_len (by decide +kernel) (da_cons (de_var (i := 3)) (da_nil))) (da_cons (de_un un_neg ud_neg (de_int)) (da_cons (de_bl) (da_cons (de_bl) (da_cons (de_non) (da_cons (de_str) (da_cons (de_tup (da_cons (de_int) (da_nil))) (da_cons (de_lst (da_nil)) (da_cons (de_bin op_addAll od_add (de_callB call_len ad_len T.n_len (by decide +kernel) (da_cons (de_var (i := 3)) (da_nil))) (de_bin op_pow od_pow (de_int) (de_int))) (da_nil)))))))))))) (dg_name sc__law_bad_right.nd (i := 6)) (ds_one (ds_if (dt_cmp (op_neD (by exact hr.units)) od_ne (de_fn (by exact (ok__law_told T).cal hr) (by exact hg) (takes_of rfl rfl rfl rfl) (da_cons (de_int) (da_cons (de_var (i := 1)) (da_cons (de_var (i := 6)) (da_nil))))) (de_lst (da_cons (de_str) (da_cons (de_callB (cr_repr (by exact hg) (by exact hr.units)) ad_repr T.n_repr (by decide +kernel) (da_cons (de_var (i := 6)) (da_nil))) (da_nil))))) (ds_one (ds_ret (de_bl))) (ds_nil))))
    (ds_one (ds_ret (de_bl)))))))))))

theorem ok_law {P : Program} {w : World} {K : PySem.W.Frag} {mg : Str → Option Value} {base : Heap} {cl : Nat → Addr} (T : Txt K mg cl) : Def P w K mg base cl "law" 9 1 F_law [] := by
  refine def_of (k := 8) T.f_law sc_law rfl (fun _ _ _ _ _ _ us hl => match us, hl with | [_], _ => rfl) ?_
  intro f cdv A outer s H E hr hg
  exact ds_cons (ds_for (is := [1]) (passes_of rfl) (by rfl) (di_range1 T.n_range (da_cons (de_callB (call_max2 rfl) ad_max T.n_max (by decide +kernel) (da_cons (de_int) (da_cons (de_callB (call_min2 rfl) ad_min T.n_min (by decide +kernel) (da_cons (de_int) (da_cons (de_callB call_len ad_len T.n_len (by decide +kernel) (da_cons (de_var (i := 0)) (da_nil))) (da_nil)))) (da_nil)))) (da_nil))) (dg_name sc_law.nd (i := 1)) (ds_cons (ds_setO (i := 2) (df_fn (by exact (ok__law_pool T).cal hr) (by exact hg) (takes_of rfl rfl rfl rfl) (da_cons (de_var (i := 0)) (da_cons (de_var (i := 1)) (da_nil)))) sc_law.nd)
    (ds_cons (ds_set (i := 3) (de_callTy call_tuple_of ad_tuple T.n_tuple (by decide +kernel) (da_cons (de_frz (df_lc (by rfl) sc_law.nd (blkOk_by (own := [("_law_turn", 5)]) (by kernel_rfl)) (di_range1 T.n_range (da_cons (de_fnT (by exact (ok__law_take T).cal hr) (by exact hg) (takes_of rfl rfl rfl rfl) (da_cons (de_int) (da_nil)) (i := 2)) (da_nil))) (fun _ _ _ _ _ => dg_name sc_law.nd (i := 5)) (fun _ _ _ _ _ => dts_nil) (fun _ _ _ _ _ => de_bin op_addAll od_add (de_int) (de_fnT (by exact (ok__law_take T).cal hr) (by exact hg) takes0 (da_cons (de_int) (da_nil)) (i := 2))))) (da_nil))) sc_law.nd)
    (ds_cons (ds_set (i := 4) (de_fnT (by exact (ok__law_take T).cal hr) (by exact hg) (takes_of rfl rfl rfl rfl) (da_cons (de_callB call_len ad_len T.n_len (by decide +kernel) (da_cons (de_fn (by exact (ok__law_worths T).cal hr) (by exact hg) (takes_of rfl rfl rfl rfl) (da_cons (de_var (i := 3)) (da_nil))) (da_nil))) (da_nil)) (i := 2)) sc_law.nd)
    (ds_one (ds_if ((dw_or (dt_not (dt_val (de_fn (by exact (ok__law_good_right T).cal hr) (by exact hg) (takes_of rfl rfl rfl rfl) (da_cons (de_var (i := 3)) (da_cons (de_var (i := 4)) (da_nil)))))) (dw_or1 (dt_not (dt_val (de_fnT (by exact (ok__law_bad_right T).cal hr) (by exact hg) (takes_of rfl rfl rfl rfl) (da_cons (de_var (i := 3)) (da_cons (de_var (i := 4)) (da_nil))) (i := 2)))))).pt) (ds_one (ds_ret (de_bl))) (ds_nil)))))))
    (ds_cons (ds_if ((dw_or (dt_cmp (op_neD (by exact hr.units)) od_ne (de_fn (by exact (ok__law_told T).cal hr) (by exact hg) (takes_of rfl rfl rfl rfl) (da_cons (de_int) (da_cons (de_bin op_mulAll od_mul (de_tup (da_cons (de_int) (da_nil))) (de_int)) (da_cons (de_non) (da_nil))))) (de_lst (da_cons (de_str) (da_cons (de_int) (da_nil))))) (dw_or1 (dt_cmp (op_neD (by exact hr.units)) od_ne (de_fn (by exact (ok__law_told T).cal hr) (by exact hg) (takes_of rfl rfl rfl rfl) (da_cons (de_int) (da_cons (de_bin op_mulAll od_mul (de_tup (da_cons (de_int) (da_nil))) (de_int)) (da_cons (de_non) (da_nil))))) (de_lst (da_cons (de_str) (da_cons (de_bin op_pow od_pow (de_int) (de_int)) (da_nil))))))).pt) (ds_one (ds_ret (de_bl))) (ds_nil))
    (ds_cons (ds_if (dt_cmp (op_neD (by exact hr.units)) od_ne (de_fn (by exact (ok__law_told T).cal hr) (by exact hg) (takes_of rfl rfl rfl rfl) (da_cons (de_int) (da_cons (de_bin op_mulAll od_mul (de_tup (da_cons (de_int) (da_nil))) (de_int)) (da_cons (de_bin op_sub od_sub (de_bin op_pow od_pow (de_int) (de_int)) (de_int)) (da_nil))))) (de_lst (da_cons (de_str) (da_cons (de_bin op_mulAll od_mul (de_tup (da_cons (de_int) (da_nil))) (de_int)) (da_nil))))) (ds_one (ds_ret (de_bl))) (ds_nil))
    (ds_cons (ds_if (dt_cmp (op_neD (by exact hr.units)) od_ne (de_ix (de_fn (by exact (ok__law_told T).cal hr) (by exact hg) (takes_of rfl rfl rfl rfl) (da_cons (de_int) (da_cons (de_bin op_mulAll od_mul (de_tup (da_cons (de_int) (da_nil))) (de_int)) (da_cons (de_bin op_mulAll od_mul (de_tup (da_cons (de_int) (da_nil))) (de_int)) (da_nil))))) (de_int)) (de_bin op_sub od_sub (de_bin op_pow od_pow (de_int) (de_int)) (de_int))) (ds_one (ds_ret (de_bl))) (ds_nil))
    (ds_one (ds_ret (de_and (de_cmp (op_eqD (by exact hr.units)) od_eq (de_fn (by exact (ok__law_told T).cal hr) (by exact hg) (takes_of rfl rfl rfl rfl) (da_cons (de_int) (da_cons (de_bin op_mulAll od_mul (de_tup (da_cons (de_int) (da_nil))) (de_int)) (da_cons (de_non) (da_nil))))) (de_lst (da_cons (de_str) (da_cons (de_lst (da_cons (de_bin op_mulAll od_mul (de_tup (da_cons (de_int) (da_nil))) (de_int)) (da_nil))) (da_nil))))) (de_and1 (de_cmp op_isBl od_is (de_fn (by exact (ok_is_sizes T).cal hr) (by exact hg) (takes_of rfl rfl rfl rfl) (da_cons (de_bin op_mulAll od_mul (de_tup (da_cons (de_int) (da_nil))) (de_int)) (da_nil))) (de_bl)))))))))
theorem all_mk {P : Program} {w : World} {K : PySem.W.Frag} {h : Heap} {mg : Str → Option Value} (X : K.In h) (G : h.Ns mainGlobals mg) {k_MAX_PRODUCT : Tok} {k_MAX_SIZE : Tok} {k_MAX_WIRES : Tok} {a_is_integer : Addr} {T_is_integer : Addr} {oc_is_integer : Value} {kV_is_integer : Value} {dc_is_integer : Value} {pm_is_integer : Value} {cd_is_integer : Value} {ct_is_integer : Value} {od_is_integer : Option Addr} {an_is_integer : Option Addr} {sl_is_integer : Array (Option Value)} {tk_is_integer_0 : Tok} {tn_is_integer : Nat} {toc_is_integer : Value} {tod_is_integer : Option Addr} {tsl_is_integer : Array (Option Value)} {a_is_size : Addr} {oc_is_size : Value} {kV_is_size : Value} {dc_is_size : Value} {pm_is_size : Value} {cd_is_size : Value} {ct_is_size : Value} {od_is_size : Option Addr} {an_is_size : Option Addr} {sl_is_size : Array (Option Value)} {a_is_sizes : Addr} {oc_is_sizes : Value} {kV_is_sizes : Value} {dc_is_sizes : Value} {pm_is_sizes : Value} {cd_is_sizes : Value} {ct_is_sizes : Value} {od_is_sizes : Option Addr} {an_is_sizes : Option Addr} {sl_is_sizes : Array (Option Value)} {a_check_sizes : Addr} {oc_check_sizes : Value} {kV_check_sizes : Value} {dc_check_sizes : Value} {pm_check_sizes : Value} {cd_check_sizes : Value} {ct_check_sizes : Value} {od_check_sizes : Option Addr} {an_check_sizes : Option Addr} {sl_check_sizes : Array (Option Value)} {a_product : Addr} {oc_product : Value} {kV_product : Value} {dc_product : Value} {pm_product : Value} {cd_product : Value} {ct_product : Value} {od_product : Option Addr} {an_product : Option Addr} {sl_product : Array (Option Value)} {a_size_product : Addr} {oc_size_product : Value} {kV_size_product : Value} {dc_size_product : Value} {pm_size_product : Value} {cd_size_product : Value} {ct_size_product : Value} {od_size_product : Option Addr} {an_size_product : Option Addr} {sl_size_product : Array (Option Value)} {a_is_values : Addr} {oc_is_values : Value} {kV_is_values : Value} {dc_is_values : Value} {pm_is_values : Value} {cd_is_values : Value} {ct_is_values : Value} {od_is_values : Option Addr} {an_is_values : Option Addr} {sl_is_values : Array (Option Value)} {a_check_values : Addr} {oc_check_values : Value} {kV_check_values : Value} {dc_check_values : Value} {pm_check_values : Value} {cd_check_values : Value} {ct_check_values : Value} {od_check_values : Option Addr} {an_check_values : Option Addr} {sl_check_values : Array (Option Value)} {a_index_of : Addr} {oc_index_of : Value} {kV_index_of : Value} {dc_index_of : Value} {pm_index_of : Value} {cd_index_of : Value} {ct_index_of : Value} {od_index_of : Option Addr} {an_index_of : Option Addr} {sl_index_of : Array (Option Value)} {a_values_at : Addr} {oc_values_at : Value} {kV_values_at : Value} {dc_values_at : Value} {pm_values_at : Value} {cd_values_at : Value} {ct_values_at : Value} {od_values_at : Option Addr} {an_values_at : Option Addr} {sl_values_at : Array (Option Value)} {a_check_product : Addr} {oc_check_product : Value} {kV_check_product : Value} {dc_check_product : Value} {pm_check_product : Value} {cd_check_product : Value} {ct_check_product : Value} {od_check_product : Option Addr} {an_check_product : Option Addr} {sl_check_product : Array (Option Value)} {a_all_values : Addr} {oc_all_values : Value} {kV_all_values : Value} {dc_all_values : Value} {pm_all_values : Value} {cd_all_values : Value} {ct_all_values : Value} {od_all_values : Option Addr} {an_all_values : Option Addr} {sl_all_values : Array (Option Value)} {a__law_pool : Addr} {oc__law_pool : Value} {kV__law_pool : Value} {dc__law_pool : Value} {pm__law_pool : Value} {cd__law_pool : Value} {ct__law_pool : Value} {od__law_pool : Option Addr} {an__law_pool : Option Addr} {sl__law_pool : Array (Option Value)} {a__law_take : Addr} {oc__law_take : Value} {kV__law_take : Value} {dc__law_take : Value} {pm__law_take : Value} {cd__law_take : Value} {ct__law_take : Value} {od__law_take : Option Addr} {an__law_take : Option Addr} {sl__law_take : Array (Option Value)} {a__law_worths : Addr} {oc__law_worths : Value} {kV__law_worths : Value} {dc__law_worths : Value} {pm__law_worths : Value} {cd__law_worths : Value} {ct__law_worths : Value} {od__law_worths : Option Addr} {an__law_worths : Option Addr} {sl__law_worths : Array (Option Value)} {a__law_told : Addr} {oc__law_told : Value} {kV__law_told : Value} {dc__law_told : Value} {pm__law_told : Value} {cd__law_told : Value} {ct__law_told : Value} {od__law_told : Option Addr} {an__law_told : Option Addr} {sl__law_told : Array (Option Value)} {a__law_good_right : Addr} {oc__law_good_right : Value} {kV__law_good_right : Value} {dc__law_good_right : Value} {pm__law_good_right : Value} {cd__law_good_right : Value} {ct__law_good_right : Value} {od__law_good_right : Option Addr} {an__law_good_right : Option Addr} {sl__law_good_right : Array (Option Value)} {a__law_bad_right : Addr} {oc__law_bad_right : Value} {kV__law_bad_right : Value} {dc__law_bad_right : Value} {pm__law_bad_right : Value} {cd__law_bad_right : Value} {ct__law_bad_right : Value} {od__law_bad_right : Option Addr} {an__law_bad_right : Option Addr} {sl__law_bad_right : Array (Option Value)} {a_law : Addr} {oc_law : Value} {kV_law : Value} {dc_law : Value} {pm_law : Value} {cd_law : Value} {ct_law : Value} {od_law : Option Addr} {an_law : Option Addr} {sl_law : Array (Option Value)} {C_NetworkError : Addr} {C_InvalidSizes : Addr} {nm_InvalidSizes : Str} {qn_InvalidSizes : Str} {N_InvalidSizes : Addr} {bs_InvalidSizes : List Value} {sn_InvalidSizes : List Str} {su_InvalidSizes : List Value} {ab_InvalidSizes : Bool} {co_InvalidSizes : Option Bool} {dd_InvalidSizes : Option Addr} {m0_InvalidSizes : Option Value} {m1_InvalidSizes : Option Value} {m2_InvalidSizes : Option Value} {m3_InvalidSizes : Option Value} {m5_InvalidSizes : Option Value} {a_iInvalidSizes : Addr} {oc_iInvalidSizes : Value} {kV_iInvalidSizes : Value} {dc_iInvalidSizes : Value} {pm_iInvalidSizes : Value} {cd_iInvalidSizes : Value} {ct_iInvalidSizes : Value} {od_iInvalidSizes : Option Addr} {an_iInvalidSizes : Option Addr} {sl_iInvalidSizes : Array (Option Value)} {C_InvalidValues : Addr} {nm_InvalidValues : Str} {qn_InvalidValues : Str} {N_InvalidValues : Addr} {bs_InvalidValues : List Value} {sn_InvalidValues : List Str} {su_InvalidValues : List Value} {ab_InvalidValues : Bool} {co_InvalidValues : Option Bool} {dd_InvalidValues : Option Addr} {m0_InvalidValues : Option Value} {m1_InvalidValues : Option Value} {m2_InvalidValues : Option Value} {m3_InvalidValues : Option Value} {m5_InvalidValues : Option Value} {a_iInvalidValues : Addr} {oc_iInvalidValues : Value} {kV_iInvalidValues : Value} {dc_iInvalidValues : Value} {pm_iInvalidValues : Value} {cd_iInvalidValues : Value} {ct_iInvalidValues : Value} {od_iInvalidValues : Option Addr} {an_iInvalidValues : Option Addr} {sl_iInvalidValues : Array (Option Value)} {C_InvalidNumber : Addr} {nm_InvalidNumber : Str} {qn_InvalidNumber : Str} {N_InvalidNumber : Addr} {bs_InvalidNumber : List Value} {sn_InvalidNumber : List Str} {su_InvalidNumber : List Value} {ab_InvalidNumber : Bool} {co_InvalidNumber : Option Bool} {dd_InvalidNumber : Option Addr} {m0_InvalidNumber : Option Value} {m1_InvalidNumber : Option Value} {m2_InvalidNumber : Option Value} {m3_InvalidNumber : Option Value} {m5_InvalidNumber : Option Value} {a_iInvalidNumber : Addr} {oc_iInvalidNumber : Value} {kV_iInvalidNumber : Value} {dc_iInvalidNumber : Value} {pm_iInvalidNumber : Value} {cd_iInvalidNumber : Value} {ct_iInvalidNumber : Value} {od_iInvalidNumber : Option Addr} {an_iInvalidNumber : Option Addr} {sl_iInvalidNumber : Array (Option Value)} {C_TooWide : Addr} {nm_TooWide : Str} {qn_TooWide : Str} {N_TooWide : Addr} {bs_TooWide : List Value} {sn_TooWide : List Str} {su_TooWide : List Value} {ab_TooWide : Bool} {co_TooWide : Option Bool} {dd_TooWide : Option Addr} {m0_TooWide : Option Value} {m1_TooWide : Option Value} {m2_TooWide : Option Value} {m3_TooWide : Option Value} {m5_TooWide : Option Value} {a_iTooWide : Addr} {oc_iTooWide : Value} {kV_iTooWide : Value} {dc_iTooWide : Value} {pm_iTooWide : Value} {cd_iTooWide : Value} {ct_iTooWide : Value} {od_iTooWide : Option Addr} {an_iTooWide : Option Addr} {sl_iTooWide : Array (Option Value)}
    (g_is_integer : PySem.W.nsIn K mainGlobals "is_integer" = some (some (.ref a_is_integer)))
    (g_is_size : PySem.W.nsIn K mainGlobals "is_size" = some (some (.ref a_is_size)))
    (g_is_sizes : PySem.W.nsIn K mainGlobals "is_sizes" = some (some (.ref a_is_sizes)))
    (g_check_sizes : PySem.W.nsIn K mainGlobals "check_sizes" = some (some (.ref a_check_sizes)))
    (g_product : PySem.W.nsIn K mainGlobals "product" = some (some (.ref a_product)))
    (g_size_product : PySem.W.nsIn K mainGlobals "size_product" = some (some (.ref a_size_product)))
    (g_is_values : PySem.W.nsIn K mainGlobals "is_values" = some (some (.ref a_is_values)))
    (g_check_values : PySem.W.nsIn K mainGlobals "check_values" = some (some (.ref a_check_values)))
    (g_index_of : PySem.W.nsIn K mainGlobals "index_of" = some (some (.ref a_index_of)))
    (g_values_at : PySem.W.nsIn K mainGlobals "values_at" = some (some (.ref a_values_at)))
    (g_check_product : PySem.W.nsIn K mainGlobals "check_product" = some (some (.ref a_check_product)))
    (g_all_values : PySem.W.nsIn K mainGlobals "all_values" = some (some (.ref a_all_values)))
    (g__law_pool : PySem.W.nsIn K mainGlobals "_law_pool" = some (some (.ref a__law_pool)))
    (g__law_take : PySem.W.nsIn K mainGlobals "_law_take" = some (some (.ref a__law_take)))
    (g__law_worths : PySem.W.nsIn K mainGlobals "_law_worths" = some (some (.ref a__law_worths)))
    (g__law_told : PySem.W.nsIn K mainGlobals "_law_told" = some (some (.ref a__law_told)))
    (g__law_good_right : PySem.W.nsIn K mainGlobals "_law_good_right" = some (some (.ref a__law_good_right)))
    (g__law_bad_right : PySem.W.nsIn K mainGlobals "_law_bad_right" = some (some (.ref a__law_bad_right)))
    (g_law : PySem.W.nsIn K mainGlobals "law" = some (some (.ref a_law)))
    (y0_InvalidSizes : PySem.W.nsIn K mainGlobals "InvalidSizes" = some (some (.ref C_InvalidSizes)))
    (y0_InvalidValues : PySem.W.nsIn K mainGlobals "InvalidValues" = some (some (.ref C_InvalidValues)))
    (y0_InvalidNumber : PySem.W.nsIn K mainGlobals "InvalidNumber" = some (some (.ref C_InvalidNumber)))
    (y0_TooWide : PySem.W.nsIn K mainGlobals "TooWide" = some (some (.ref C_TooWide)))
    (x0_NetworkError : PySem.W.nsIn K mainGlobals "NetworkError" = some (some (.ref C_NetworkError)))
    (l_is_integer : K.lookup a_is_integer = some ⟨oc_is_integer, od_is_integer, .func (PySem.W.fnOf "is_integer" "is_integer" (defArgs s_is_integer) (defBody s_is_integer) (defScope s_is_integer) (.ref T_is_integer) kV_is_integer dc_is_integer pm_is_integer an_is_integer cd_is_integer ct_is_integer), sl_is_integer⟩)
    (l_is_size : K.lookup a_is_size = some ⟨oc_is_size, od_is_size, .func (PySem.W.fnOf "is_size" "is_size" (defArgs s_is_size) (defBody s_is_size) (defScope s_is_size) .none kV_is_size dc_is_size pm_is_size an_is_size cd_is_size ct_is_size), sl_is_size⟩)
    (l_is_sizes : K.lookup a_is_sizes = some ⟨oc_is_sizes, od_is_sizes, .func (PySem.W.fnOf "is_sizes" "is_sizes" (defArgs s_is_sizes) (defBody s_is_sizes) (defScope s_is_sizes) .none kV_is_sizes dc_is_sizes pm_is_sizes an_is_sizes cd_is_sizes ct_is_sizes), sl_is_sizes⟩)
    (l_check_sizes : K.lookup a_check_sizes = some ⟨oc_check_sizes, od_check_sizes, .func (PySem.W.fnOf "check_sizes" "check_sizes" (defArgs s_check_sizes) (defBody s_check_sizes) (defScope s_check_sizes) .none kV_check_sizes dc_check_sizes pm_check_sizes an_check_sizes cd_check_sizes ct_check_sizes), sl_check_sizes⟩)
    (l_product : K.lookup a_product = some ⟨oc_product, od_product, .func (PySem.W.fnOf "product" "product" (defArgs s_product) (defBody s_product) (defScope s_product) .none kV_product dc_product pm_product an_product cd_product ct_product), sl_product⟩)
    (l_size_product : K.lookup a_size_product = some ⟨oc_size_product, od_size_product, .func (PySem.W.fnOf "size_product" "size_product" (defArgs s_size_product) (defBody s_size_product) (defScope s_size_product) .none kV_size_product dc_size_product pm_size_product an_size_product cd_size_product ct_size_product), sl_size_product⟩)
    (l_is_values : K.lookup a_is_values = some ⟨oc_is_values, od_is_values, .func (PySem.W.fnOf "is_values" "is_values" (defArgs s_is_values) (defBody s_is_values) (defScope s_is_values) .none kV_is_values dc_is_values pm_is_values an_is_values cd_is_values ct_is_values), sl_is_values⟩)
    (l_check_values : K.lookup a_check_values = some ⟨oc_check_values, od_check_values, .func (PySem.W.fnOf "check_values" "check_values" (defArgs s_check_values) (defBody s_check_values) (defScope s_check_values) .none kV_check_values dc_check_values pm_check_values an_check_values cd_check_values ct_check_values), sl_check_values⟩)
    (l_index_of : K.lookup a_index_of = some ⟨oc_index_of, od_index_of, .func (PySem.W.fnOf "index_of" "index_of" (defArgs s_index_of) (defBody s_index_of) (defScope s_index_of) .none kV_index_of dc_index_of pm_index_of an_index_of cd_index_of ct_index_of), sl_index_of⟩)
    (l_values_at : K.lookup a_values_at = some ⟨oc_values_at, od_values_at, .func (PySem.W.fnOf "values_at" "values_at" (defArgs s_values_at) (defBody s_values_at) (defScope s_values_at) .none kV_values_at dc_values_at pm_values_at an_values_at cd_values_at ct_values_at), sl_values_at⟩)
    (l_check_product : K.lookup a_check_product = some ⟨oc_check_product, od_check_product, .func (PySem.W.fnOf "check_product" "check_product" (defArgs s_check_product) (defBody s_check_product) (defScope s_check_product) .none kV_check_product dc_check_product pm_check_product an_check_product cd_check_product ct_check_product), sl_check_product⟩)
    (l_all_values : K.lookup a_all_values = some ⟨oc_all_values, od_all_values, .func (PySem.W.fnOf "all_values" "all_values" (defArgs s_all_values) (defBody s_all_values) (defScope s_all_values) .none kV_all_values dc_all_values pm_all_values an_all_values cd_all_values ct_all_values), sl_all_values⟩)
    (l__law_pool : K.lookup a__law_pool = some ⟨oc__law_pool, od__law_pool, .func (PySem.W.fnOf "_law_pool" "_law_pool" (defArgs s__law_pool) (defBody s__law_pool) (defScope s__law_pool) .none kV__law_pool dc__law_pool pm__law_pool an__law_pool cd__law_pool ct__law_pool), sl__law_pool⟩)
    (l__law_take : K.lookup a__law_take = some ⟨oc__law_take, od__law_take, .func (PySem.W.fnOf "_law_take" "_law_take" (defArgs s__law_take) (defBody s__law_take) (defScope s__law_take) .none kV__law_take dc__law_take pm__law_take an__law_take cd__law_take ct__law_take), sl__law_take⟩)
    (l__law_worths : K.lookup a__law_worths = some ⟨oc__law_worths, od__law_worths, .func (PySem.W.fnOf "_law_worths" "_law_worths" (defArgs s__law_worths) (defBody s__law_worths) (defScope s__law_worths) .none kV__law_worths dc__law_worths pm__law_worths an__law_worths cd__law_worths ct__law_worths), sl__law_worths⟩)
    (l__law_told : K.lookup a__law_told = some ⟨oc__law_told, od__law_told, .func (PySem.W.fnOf "_law_told" "_law_told" (defArgs s__law_told) (defBody s__law_told) (defScope s__law_told) .none kV__law_told dc__law_told pm__law_told an__law_told cd__law_told ct__law_told), sl__law_told⟩)
    (l__law_good_right : K.lookup a__law_good_right = some ⟨oc__law_good_right, od__law_good_right, .func (PySem.W.fnOf "_law_good_right" "_law_good_right" (defArgs s__law_good_right) (defBody s__law_good_right) (defScope s__law_good_right) .none kV__law_good_right dc__law_good_right pm__law_good_right an__law_good_right cd__law_good_right ct__law_good_right), sl__law_good_right⟩)
    (l__law_bad_right : K.lookup a__law_bad_right = some ⟨oc__law_bad_right, od__law_bad_right, .func (PySem.W.fnOf "_law_bad_right" "_law_bad_right" (defArgs s__law_bad_right) (defBody s__law_bad_right) (defScope s__law_bad_right) .none kV__law_bad_right dc__law_bad_right pm__law_bad_right an__law_bad_right cd__law_bad_right ct__law_bad_right), sl__law_bad_right⟩)
    (l_law : K.lookup a_law = some ⟨oc_law, od_law, .func (PySem.W.fnOf "law" "law" (defArgs s_law) (defBody s_law) (defScope s_law) .none kV_law dc_law pm_law an_law cd_law ct_law), sl_law⟩)
    (z0_InvalidSizes : PySem.W.findIn K (.ref C_InvalidSizes) "__init__" = some (some (.ref a_iInvalidSizes)))
    (l_iInvalidSizes : K.lookup a_iInvalidSizes = some ⟨oc_iInvalidSizes, od_iInvalidSizes, .func (PySem.W.fnOf "__init__" "InvalidSizes.__init__" (defArgs i_InvalidSizes) (defBody i_InvalidSizes) (defScope i_InvalidSizes) .none kV_iInvalidSizes dc_iInvalidSizes pm_iInvalidSizes an_iInvalidSizes cd_iInvalidSizes ct_iInvalidSizes), sl_iInvalidSizes⟩)
    (z0_InvalidValues : PySem.W.findIn K (.ref C_InvalidValues) "__init__" = some (some (.ref a_iInvalidValues)))
    (l_iInvalidValues : K.lookup a_iInvalidValues = some ⟨oc_iInvalidValues, od_iInvalidValues, .func (PySem.W.fnOf "__init__" "InvalidValues.__init__" (defArgs i_InvalidValues) (defBody i_InvalidValues) (defScope i_InvalidValues) .none kV_iInvalidValues dc_iInvalidValues pm_iInvalidValues an_iInvalidValues cd_iInvalidValues ct_iInvalidValues), sl_iInvalidValues⟩)
    (z0_InvalidNumber : PySem.W.findIn K (.ref C_InvalidNumber) "__init__" = some (some (.ref a_iInvalidNumber)))
    (l_iInvalidNumber : K.lookup a_iInvalidNumber = some ⟨oc_iInvalidNumber, od_iInvalidNumber, .func (PySem.W.fnOf "__init__" "InvalidNumber.__init__" (defArgs i_InvalidNumber) (defBody i_InvalidNumber) (defScope i_InvalidNumber) .none kV_iInvalidNumber dc_iInvalidNumber pm_iInvalidNumber an_iInvalidNumber cd_iInvalidNumber ct_iInvalidNumber), sl_iInvalidNumber⟩)
    (z0_TooWide : PySem.W.findIn K (.ref C_TooWide) "__init__" = some (some (.ref a_iTooWide)))
    (l_iTooWide : K.lookup a_iTooWide = some ⟨oc_iTooWide, od_iTooWide, .func (PySem.W.fnOf "__init__" "TooWide.__init__" (defArgs i_TooWide) (defBody i_TooWide) (defScope i_TooWide) .none kV_iTooWide dc_iTooWide pm_iTooWide an_iTooWide cd_iTooWide ct_iTooWide), sl_iTooWide⟩)
    (n_abs : PySem.W.nsIn K mainGlobals "abs" = some none)
    (n_all : PySem.W.nsIn K mainGlobals "all" = some none)
    (n_bool : PySem.W.nsIn K mainGlobals "bool" = some none)
    (n_divmod : PySem.W.nsIn K mainGlobals "divmod" = some none)
    (n_int : PySem.W.nsIn K mainGlobals "int" = some none)
    (n_isinstance : PySem.W.nsIn K mainGlobals "isinstance" = some none)
    (n_len : PySem.W.nsIn K mainGlobals "len" = some none)
    (n_list : PySem.W.nsIn K mainGlobals "list" = some none)
    (n_max : PySem.W.nsIn K mainGlobals "max" = some none)
    (n_min : PySem.W.nsIn K mainGlobals "min" = some none)
    (n_range : PySem.W.nsIn K mainGlobals "range" = some none)
    (n_repr : PySem.W.nsIn K mainGlobals "repr" = some none)
    (n_tuple : PySem.W.nsIn K mainGlobals "tuple" = some none)
    (n_zip : PySem.W.nsIn K mainGlobals "zip" = some none)
    (c_MAX_PRODUCT : PySem.W.nsIn K mainGlobals "MAX_PRODUCT" = some (some (.int 1024 k_MAX_PRODUCT)))
    (c_MAX_SIZE : PySem.W.nsIn K mainGlobals "MAX_SIZE" = some (some (.int 4 k_MAX_SIZE)))
    (c_MAX_WIRES : PySem.W.nsIn K mainGlobals "MAX_WIRES" = some (some (.int 30 k_MAX_WIRES)))
    (d_is_integer : PySem.W.codeIn K cd_is_integer "is_integer" = true)
    (k_is_integer : PySem.W.keepIn K (.ref a_is_integer) = true)
    (t_is_integer : K.lookup T_is_integer = some ⟨toc_is_integer, tod_is_integer, .seq #[.int 0 tk_is_integer_0] tn_is_integer, tsl_is_integer⟩)
    (d_is_size : PySem.W.codeIn K cd_is_size "is_size" = true)
    (k_is_size : PySem.W.keepIn K (.ref a_is_size) = true)
    (d_is_sizes : PySem.W.codeIn K cd_is_sizes "is_sizes" = true)
    (k_is_sizes : PySem.W.keepIn K (.ref a_is_sizes) = true)
    (d_check_sizes : PySem.W.codeIn K cd_check_sizes "check_sizes" = true)
    (k_check_sizes : PySem.W.keepIn K (.ref a_check_sizes) = true)
    (d_product : PySem.W.codeIn K cd_product "product" = true)
    (k_product : PySem.W.keepIn K (.ref a_product) = true)
    (d_size_product : PySem.W.codeIn K cd_size_product "size_product" = true)
    (k_size_product : PySem.W.keepIn K (.ref a_size_product) = true)
    (d_is_values : PySem.W.codeIn K cd_is_values "is_values" = true)
    (k_is_values : PySem.W.keepIn K (.ref a_is_values) = true)
    (d_check_values : PySem.W.codeIn K cd_check_values "check_values" = true)
    (k_check_values : PySem.W.keepIn K (.ref a_check_values) = true)
    (d_index_of : PySem.W.codeIn K cd_index_of "index_of" = true)
    (k_index_of : PySem.W.keepIn K (.ref a_index_of) = true)
    (d_values_at : PySem.W.codeIn K cd_values_at "values_at" = true)
    (k_values_at : PySem.W.keepIn K (.ref a_values_at) = true)
    (d_check_product : PySem.W.codeIn K cd_check_product "check_product" = true)
    (k_check_product : PySem.W.keepIn K (.ref a_check_product) = true)
    (d_all_values : PySem.W.codeIn K cd_all_values "all_values" = true)
    (k_all_values : PySem.W.keepIn K (.ref a_all_values) = true)
    (d__law_pool : PySem.W.codeIn K cd__law_pool "_law_pool" = true)
    (k__law_pool : PySem.W.keepIn K (.ref a__law_pool) = true)
    (d__law_take : PySem.W.codeIn K cd__law_take "_law_take" = true)
    (k__law_take : PySem.W.keepIn K (.ref a__law_take) = true)
    (d__law_worths : PySem.W.codeIn K cd__law_worths "_law_worths" = true)
    (k__law_worths : PySem.W.keepIn K (.ref a__law_worths) = true)
    (d__law_told : PySem.W.codeIn K cd__law_told "_law_told" = true)
    (k__law_told : PySem.W.keepIn K (.ref a__law_told) = true)
    (d__law_good_right : PySem.W.codeIn K cd__law_good_right "_law_good_right" = true)
    (k__law_good_right : PySem.W.keepIn K (.ref a__law_good_right) = true)
    (d__law_bad_right : PySem.W.codeIn K cd__law_bad_right "_law_bad_right" = true)
    (k__law_bad_right : PySem.W.keepIn K (.ref a__law_bad_right) = true)
    (d_law : PySem.W.codeIn K cd_law "law" = true)
    (k_law : PySem.W.keepIn K (.ref a_law) = true)
    (x1_NetworkError : PySem.W.readsIn K C_NetworkError (.type "type") = true)
    (x2_NetworkError : PySem.W.specialIn K (.ref C_NetworkError) "__getattribute__" = some (some (.builtin "type.__getattribute__")))
    (x3_NetworkError : PySem.W.findCls K (.ref C_NetworkError) (.type "type") "__init__" = some (.val (.builtin "ValueError.__init__")))
    (y1_InvalidSizes : K.lookup C_InvalidSizes = some (excClassObj nm_InvalidSizes qn_InvalidSizes C_InvalidSizes N_InvalidSizes bs_InvalidSizes [.ref C_NetworkError, .type "ValueError", .type "Exception", .type "BaseException", .type "object"] true sn_InvalidSizes su_InvalidSizes ab_InvalidSizes co_InvalidSizes dd_InvalidSizes m0_InvalidSizes m1_InvalidSizes m2_InvalidSizes m3_InvalidSizes m5_InvalidSizes "ValueError.__new__"))
    (y2_InvalidSizes : PySem.W.findIn K (.ref C_InvalidSizes) "__setattr__" = some (some (.builtin "object.__setattr__")))
    (y3_InvalidSizes : PySem.W.subIn K (.ref C_InvalidSizes) (.type "BaseException") = some true)
    (y4_InvalidSizes : PySem.W.typeIn K (.ref C_InvalidSizes) = some (.type "type"))
    (y5_InvalidSizes : PySem.W.keepIn K (.ref C_InvalidSizes) = true)
    (y6_InvalidSizes : PySem.W.findIn K (.ref C_InvalidSizes) "__getattribute__" = some (some (.builtin "BaseException.__getattribute__")))
    (y7_InvalidSizes : PySem.W.findIn K (.ref C_InvalidSizes) "__getattr__" = some none)
    (y8_InvalidSizes : PySem.W.hasDictIn K C_InvalidSizes = true)
    (y9_InvalidSizes : PySem.W.findIn K (.ref C_InvalidSizes) "value" = some none)
    (z1_InvalidSizes : PySem.W.typeIn K (.ref a_iInvalidSizes) = some (.type "function"))
    (d_iInvalidSizes : PySem.W.codeIn K cd_iInvalidSizes "InvalidSizes.__init__" = true)
    (k_iInvalidSizes : PySem.W.keepIn K (.ref a_iInvalidSizes) = true)
    (w0_InvalidSizes : PySem.W.isClsIn K C_InvalidSizes = true)
    (s_InvalidSizes_InvalidSizes : PySem.W.subIn K (.ref C_InvalidSizes) (.ref C_InvalidSizes) = some true)
    (s_InvalidSizes_InvalidValues : PySem.W.subIn K (.ref C_InvalidSizes) (.ref C_InvalidValues) = some false)
    (s_InvalidSizes_InvalidNumber : PySem.W.subIn K (.ref C_InvalidSizes) (.ref C_InvalidNumber) = some false)
    (s_InvalidSizes_TooWide : PySem.W.subIn K (.ref C_InvalidSizes) (.ref C_TooWide) = some false)
    (y1_InvalidValues : K.lookup C_InvalidValues = some (excClassObj nm_InvalidValues qn_InvalidValues C_InvalidValues N_InvalidValues bs_InvalidValues [.ref C_NetworkError, .type "ValueError", .type "Exception", .type "BaseException", .type "object"] true sn_InvalidValues su_InvalidValues ab_InvalidValues co_InvalidValues dd_InvalidValues m0_InvalidValues m1_InvalidValues m2_InvalidValues m3_InvalidValues m5_InvalidValues "ValueError.__new__"))
    (y2_InvalidValues : PySem.W.findIn K (.ref C_InvalidValues) "__setattr__" = some (some (.builtin "object.__setattr__")))
    (y3_InvalidValues : PySem.W.subIn K (.ref C_InvalidValues) (.type "BaseException") = some true)
    (y4_InvalidValues : PySem.W.typeIn K (.ref C_InvalidValues) = some (.type "type"))
    (y5_InvalidValues : PySem.W.keepIn K (.ref C_InvalidValues) = true)
    (y6_InvalidValues : PySem.W.findIn K (.ref C_InvalidValues) "__getattribute__" = some (some (.builtin "BaseException.__getattribute__")))
    (y7_InvalidValues : PySem.W.findIn K (.ref C_InvalidValues) "__getattr__" = some none)
    (y8_InvalidValues : PySem.W.hasDictIn K C_InvalidValues = true)
    (y9_InvalidValues : PySem.W.findIn K (.ref C_InvalidValues) "value" = some none)
    (z1_InvalidValues : PySem.W.typeIn K (.ref a_iInvalidValues) = some (.type "function"))
    (d_iInvalidValues : PySem.W.codeIn K cd_iInvalidValues "InvalidValues.__init__" = true)
    (k_iInvalidValues : PySem.W.keepIn K (.ref a_iInvalidValues) = true)
    (w0_InvalidValues : PySem.W.isClsIn K C_InvalidValues = true)
    (s_InvalidValues_InvalidSizes : PySem.W.subIn K (.ref C_InvalidValues) (.ref C_InvalidSizes) = some false)
    (s_InvalidValues_InvalidValues : PySem.W.subIn K (.ref C_InvalidValues) (.ref C_InvalidValues) = some true)
    (s_InvalidValues_InvalidNumber : PySem.W.subIn K (.ref C_InvalidValues) (.ref C_InvalidNumber) = some false)
    (s_InvalidValues_TooWide : PySem.W.subIn K (.ref C_InvalidValues) (.ref C_TooWide) = some false)
    (y1_InvalidNumber : K.lookup C_InvalidNumber = some (excClassObj nm_InvalidNumber qn_InvalidNumber C_InvalidNumber N_InvalidNumber bs_InvalidNumber [.ref C_NetworkError, .type "ValueError", .type "Exception", .type "BaseException", .type "object"] true sn_InvalidNumber su_InvalidNumber ab_InvalidNumber co_InvalidNumber dd_InvalidNumber m0_InvalidNumber m1_InvalidNumber m2_InvalidNumber m3_InvalidNumber m5_InvalidNumber "ValueError.__new__"))
    (y2_InvalidNumber : PySem.W.findIn K (.ref C_InvalidNumber) "__setattr__" = some (some (.builtin "object.__setattr__")))
    (y3_InvalidNumber : PySem.W.subIn K (.ref C_InvalidNumber) (.type "BaseException") = some true)
    (y4_InvalidNumber : PySem.W.typeIn K (.ref C_InvalidNumber) = some (.type "type"))
    (y5_InvalidNumber : PySem.W.keepIn K (.ref C_InvalidNumber) = true)
    (y6_InvalidNumber : PySem.W.findIn K (.ref C_InvalidNumber) "__getattribute__" = some (some (.builtin "BaseException.__getattribute__")))
    (y7_InvalidNumber : PySem.W.findIn K (.ref C_InvalidNumber) "__getattr__" = some none)
    (y8_InvalidNumber : PySem.W.hasDictIn K C_InvalidNumber = true)
    (y9_InvalidNumber : PySem.W.findIn K (.ref C_InvalidNumber) "value" = some none)
    (z1_InvalidNumber : PySem.W.typeIn K (.ref a_iInvalidNumber) = some (.type "function"))
    (d_iInvalidNumber : PySem.W.codeIn K cd_iInvalidNumber "InvalidNumber.__init__" = true)
    (k_iInvalidNumber : PySem.W.keepIn K (.ref a_iInvalidNumber) = true)
    (w0_InvalidNumber : PySem.W.isClsIn K C_InvalidNumber = true)
    (s_InvalidNumber_InvalidSizes : PySem.W.subIn K (.ref C_InvalidNumber) (.ref C_InvalidSizes) = some false)
    (s_InvalidNumber_InvalidValues : PySem.W.subIn K (.ref C_InvalidNumber) (.ref C_InvalidValues) = some false)
    (s_InvalidNumber_InvalidNumber : PySem.W.subIn K (.ref C_InvalidNumber) (.ref C_InvalidNumber) = some true)
    (s_InvalidNumber_TooWide : PySem.W.subIn K (.ref C_InvalidNumber) (.ref C_TooWide) = some false)
    (y1_TooWide : K.lookup C_TooWide = some (excClassObj nm_TooWide qn_TooWide C_TooWide N_TooWide bs_TooWide [.ref C_NetworkError, .type "ValueError", .type "Exception", .type "BaseException", .type "object"] true sn_TooWide su_TooWide ab_TooWide co_TooWide dd_TooWide m0_TooWide m1_TooWide m2_TooWide m3_TooWide m5_TooWide "ValueError.__new__"))
    (y2_TooWide : PySem.W.findIn K (.ref C_TooWide) "__setattr__" = some (some (.builtin "object.__setattr__")))
    (y3_TooWide : PySem.W.subIn K (.ref C_TooWide) (.type "BaseException") = some true)
    (y4_TooWide : PySem.W.typeIn K (.ref C_TooWide) = some (.type "type"))
    (y5_TooWide : PySem.W.keepIn K (.ref C_TooWide) = true)
    (y6_TooWide : PySem.W.findIn K (.ref C_TooWide) "__getattribute__" = some (some (.builtin "BaseException.__getattribute__")))
    (y7_TooWide : PySem.W.findIn K (.ref C_TooWide) "__getattr__" = some none)
    (y8_TooWide : PySem.W.hasDictIn K C_TooWide = true)
    (y9_TooWide : PySem.W.findIn K (.ref C_TooWide) "count" = some none)
    (z1_TooWide : PySem.W.typeIn K (.ref a_iTooWide) = some (.type "function"))
    (d_iTooWide : PySem.W.codeIn K cd_iTooWide "TooWide.__init__" = true)
    (k_iTooWide : PySem.W.keepIn K (.ref a_iTooWide) = true)
    (w0_TooWide : PySem.W.isClsIn K C_TooWide = true)
    (s_TooWide_InvalidSizes : PySem.W.subIn K (.ref C_TooWide) (.ref C_InvalidSizes) = some false)
    (s_TooWide_InvalidValues : PySem.W.subIn K (.ref C_TooWide) (.ref C_InvalidValues) = some false)
    (s_TooWide_InvalidNumber : PySem.W.subIn K (.ref C_TooWide) (.ref C_InvalidNumber) = some false)
    (s_TooWide_TooWide : PySem.W.subIn K (.ref C_TooWide) (.ref C_TooWide) = some true) :
    ∃ cl : Nat → Addr, ∀ base : Heap, Def P w K mg base cl "law" 9 1 F_law [] := ⟨fun | 0 => C_InvalidSizes | 1 => C_InvalidValues | 2 => C_InvalidNumber | 3 => C_TooWide | _ => 0, fun base => ok_law {
    n_abs := PySem.W.mg_none_of X G n_abs,
    n_all := PySem.W.mg_none_of X G n_all,
    n_bool := PySem.W.mg_none_of X G n_bool,
    n_divmod := PySem.W.mg_none_of X G n_divmod,
    n_int := PySem.W.mg_none_of X G n_int,
    n_isinstance := PySem.W.mg_none_of X G n_isinstance,
    n_len := PySem.W.mg_none_of X G n_len,
    n_list := PySem.W.mg_none_of X G n_list,
    n_max := PySem.W.mg_none_of X G n_max,
    n_min := PySem.W.mg_none_of X G n_min,
    n_range := PySem.W.mg_none_of X G n_range,
    n_repr := PySem.W.mg_none_of X G n_repr,
    n_tuple := PySem.W.mg_none_of X G n_tuple,
    n_zip := PySem.W.mg_none_of X G n_zip,
    c_MAX_PRODUCT := ⟨_, PySem.W.mg_of X G c_MAX_PRODUCT⟩,
    c_MAX_SIZE := ⟨_, PySem.W.mg_of X G c_MAX_SIZE⟩,
    c_MAX_WIRES := ⟨_, PySem.W.mg_of X G c_MAX_WIRES⟩,
    f_is_integer := ⟨_, _, PySem.W.mg_of X G g_is_integer, ⟨_, _, _, _, _, _, _, _, _, _, rfl, l_is_integer, d_is_integer, .inr ⟨by simp, _, _, _, _, rfl, t_is_integer, rfl, .cons ⟨_, rfl⟩ (.nil)⟩, .inl rfl⟩, k_is_integer⟩,
    f_is_size := ⟨_, _, PySem.W.mg_of X G g_is_size, fun_mk l_is_size d_is_size k_is_size⟩,
    f_is_sizes := ⟨_, _, PySem.W.mg_of X G g_is_sizes, fun_mk l_is_sizes d_is_sizes k_is_sizes⟩,
    f_check_sizes := ⟨_, _, PySem.W.mg_of X G g_check_sizes, fun_mk l_check_sizes d_check_sizes k_check_sizes⟩,
    f_product := ⟨_, _, PySem.W.mg_of X G g_product, fun_mk l_product d_product k_product⟩,
    f_size_product := ⟨_, _, PySem.W.mg_of X G g_size_product, fun_mk l_size_product d_size_product k_size_product⟩,
    f_is_values := ⟨_, _, PySem.W.mg_of X G g_is_values, fun_mk l_is_values d_is_values k_is_values⟩,
    f_check_values := ⟨_, _, PySem.W.mg_of X G g_check_values, fun_mk l_check_values d_check_values k_check_values⟩,
    f_index_of := ⟨_, _, PySem.W.mg_of X G g_index_of, fun_mk l_index_of d_index_of k_index_of⟩,
    f_values_at := ⟨_, _, PySem.W.mg_of X G g_values_at, fun_mk l_values_at d_values_at k_values_at⟩,
    f_check_product := ⟨_, _, PySem.W.mg_of X G g_check_product, fun_mk l_check_product d_check_product k_check_product⟩,
    f_all_values := ⟨_, _, PySem.W.mg_of X G g_all_values, fun_mk l_all_values d_all_values k_all_values⟩,
    f__law_pool := ⟨_, _, PySem.W.mg_of X G g__law_pool, fun_mk l__law_pool d__law_pool k__law_pool⟩,
    f__law_take := ⟨_, _, PySem.W.mg_of X G g__law_take, fun_mk l__law_take d__law_take k__law_take⟩,
    f__law_worths := ⟨_, _, PySem.W.mg_of X G g__law_worths, fun_mk l__law_worths d__law_worths k__law_worths⟩,
    f__law_told := ⟨_, _, PySem.W.mg_of X G g__law_told, fun_mk l__law_told d__law_told k__law_told⟩,
    f__law_good_right := ⟨_, _, PySem.W.mg_of X G g__law_good_right, fun_mk l__law_good_right d__law_good_right k__law_good_right⟩,
    f__law_bad_right := ⟨_, _, PySem.W.mg_of X G g__law_bad_right, fun_mk l__law_bad_right d__law_bad_right k__law_bad_right⟩,
    f_law := ⟨_, _, PySem.W.mg_of X G g_law, fun_mk l_law d_law k_law⟩,
    t_NetworkError := ⟨_, x1_NetworkError, x2_NetworkError, x3_NetworkError, PySem.W.mg_of X G x0_NetworkError⟩,
    e_InvalidSizes := ⟨⟨⟨_, _, _, _, _, _, _, _, _, _, _, _, _, _, _, y1_InvalidSizes, by rfl⟩, y2_InvalidSizes, y3_InvalidSizes, y4_InvalidSizes, y5_InvalidSizes⟩, ⟨y6_InvalidSizes, y7_InvalidSizes, y3_InvalidSizes, y8_InvalidSizes⟩, y9_InvalidSizes, PySem.W.mg_of X G y0_InvalidSizes, _, _, z0_InvalidSizes, z1_InvalidSizes, fun_mk l_iInvalidSizes d_iInvalidSizes k_iInvalidSizes⟩,
    e_InvalidValues := ⟨⟨⟨_, _, _, _, _, _, _, _, _, _, _, _, _, _, _, y1_InvalidValues, by rfl⟩, y2_InvalidValues, y3_InvalidValues, y4_InvalidValues, y5_InvalidValues⟩, ⟨y6_InvalidValues, y7_InvalidValues, y3_InvalidValues, y8_InvalidValues⟩, y9_InvalidValues, PySem.W.mg_of X G y0_InvalidValues, _, _, z0_InvalidValues, z1_InvalidValues, fun_mk l_iInvalidValues d_iInvalidValues k_iInvalidValues⟩,
    e_InvalidNumber := ⟨⟨⟨_, _, _, _, _, _, _, _, _, _, _, _, _, _, _, y1_InvalidNumber, by rfl⟩, y2_InvalidNumber, y3_InvalidNumber, y4_InvalidNumber, y5_InvalidNumber⟩, ⟨y6_InvalidNumber, y7_InvalidNumber, y3_InvalidNumber, y8_InvalidNumber⟩, y9_InvalidNumber, PySem.W.mg_of X G y0_InvalidNumber, _, _, z0_InvalidNumber, z1_InvalidNumber, fun_mk l_iInvalidNumber d_iInvalidNumber k_iInvalidNumber⟩,
    e_TooWide := ⟨⟨⟨_, _, _, _, _, _, _, _, _, _, _, _, _, _, _, y1_TooWide, by rfl⟩, y2_TooWide, y3_TooWide, y4_TooWide, y5_TooWide⟩, ⟨y6_TooWide, y7_TooWide, y3_TooWide, y8_TooWide⟩, y9_TooWide, PySem.W.mg_of X G y0_TooWide, _, _, z0_TooWide, z1_TooWide, fun_mk l_iTooWide d_iTooWide k_iTooWide⟩,
    exm := fun c c0 h1 h2 => match c, c0, h1, h2 with
      | 0, 0, _, _ => exm_by y3_InvalidSizes y3_InvalidSizes w0_InvalidSizes y4_InvalidSizes s_InvalidSizes_InvalidSizes
      | 0, 1, _, _ => exm_by y3_InvalidSizes y3_InvalidValues w0_InvalidValues y4_InvalidValues s_InvalidSizes_InvalidValues
      | 0, 2, _, _ => exm_by y3_InvalidSizes y3_InvalidNumber w0_InvalidNumber y4_InvalidNumber s_InvalidSizes_InvalidNumber
      | 0, 3, _, _ => exm_by y3_InvalidSizes y3_TooWide w0_TooWide y4_TooWide s_InvalidSizes_TooWide
      | 1, 0, _, _ => exm_by y3_InvalidValues y3_InvalidSizes w0_InvalidSizes y4_InvalidSizes s_InvalidValues_InvalidSizes
      | 1, 1, _, _ => exm_by y3_InvalidValues y3_InvalidValues w0_InvalidValues y4_InvalidValues s_InvalidValues_InvalidValues
      | 1, 2, _, _ => exm_by y3_InvalidValues y3_InvalidNumber w0_InvalidNumber y4_InvalidNumber s_InvalidValues_InvalidNumber
      | 1, 3, _, _ => exm_by y3_InvalidValues y3_TooWide w0_TooWide y4_TooWide s_InvalidValues_TooWide
      | 2, 0, _, _ => exm_by y3_InvalidNumber y3_InvalidSizes w0_InvalidSizes y4_InvalidSizes s_InvalidNumber_InvalidSizes
      | 2, 1, _, _ => exm_by y3_InvalidNumber y3_InvalidValues w0_InvalidValues y4_InvalidValues s_InvalidNumber_InvalidValues
      | 2, 2, _, _ => exm_by y3_InvalidNumber y3_InvalidNumber w0_InvalidNumber y4_InvalidNumber s_InvalidNumber_InvalidNumber
      | 2, 3, _, _ => exm_by y3_InvalidNumber y3_TooWide w0_TooWide y4_TooWide s_InvalidNumber_TooWide
      | 3, 0, _, _ => exm_by y3_TooWide y3_InvalidSizes w0_InvalidSizes y4_InvalidSizes s_TooWide_InvalidSizes
      | 3, 1, _, _ => exm_by y3_TooWide y3_InvalidValues w0_InvalidValues y4_InvalidValues s_TooWide_InvalidValues
      | 3, 2, _, _ => exm_by y3_TooWide y3_InvalidNumber w0_InvalidNumber y4_InvalidNumber s_TooWide_InvalidNumber
      | 3, 3, _, _ => exm_by y3_TooWide y3_TooWide w0_TooWide y4_TooWide s_TooWide_TooWide
      | n + 4, _, h, _ => absurd h (by show ¬ n + 4 < 4; omega)
      | 0, n + 4, _, h => absurd h (by show ¬ n + 4 < 4; omega)
      | 1, n + 4, _, h => absurd h (by show ¬ n + 4 < 4; omega)
      | 2, n + 4, _, h => absurd h (by show ¬ n + 4 < 4; omega)
      | 3, n + 4, _, h => absurd h (by show ¬ n + 4 < 4; omega) }⟩
end K01
end

section
set_option Elab.async false
set_option linter.all false
set_option maxRecDepth 100000
set_option maxHeartbeats 2000000
namespace K01
open PySem L2 PyProof.Rows PySem.Spec DL
def isObj : D → Bool
  | .obj _ _ => true
  | _ => false
/-! ### is_integer .. check_sizes -/
def intB : D → Int → Bool
  | .int i, m => decide (m ≤ i)
  | _, _ => false
theorem is_integer {d : D} (m : Int) (h : isObj d = false) : F_is_integer [d, .int m] = .ok (.val (.bl (intB d m))) := by
  cases d with
  | obj c fs => cases h
  | _ => rfl
def sizeB (d : D) : Bool := intB d 1 && (match d with | .int i => decide (i ≤ 4) | _ => false)
theorem is_size {d : D} (h : isObj d = false) : F_is_size [d] = .ok (.val (.bl (sizeB d))) := by
  have e := is_integer 1 h
  unfold F_is_size
  cases hb : intB d 1 with
  | false =>
    simp [q_bnd, q_ok, q_er, q_bad, q_some, q_none, q_eC, q_eV, q_eZ, q_eOp, q_eUn, q_aNil, q_aCons, q_eTup, q_eLst, q_eApp, q_toB, q_bOf, q_tNo, q_tAn, q_tOt, q_eIf, q_eAn, q_eOt, q_eNo, q_eFn, q_eFnO, q_frv, q_fro, q_fre, q_foo, q_foe, q_sSet, q_sSetO, q_lok, q_ler, q_sNx, q_sSeq, q_sIf, q_sRet, q_sRetF, q_sDo, q_sRetO, q_sRaise, q_sFor, q_sUnp, q_sAug, q_sApp, q_sSetI, q_isOwn, q_setI, q_eIsi, q_iAny, q_it1, q_it2, q_it3, q_iR1, q_iZp, q_zp, q_eLc, q_eLc2, q_oNone, q_oSome, q_iOf, q_eSl, q_sTry, q_eXf, q_fn, q_lt, q_le, q_gt, q_ge, q_sub, q_add, q_iadd, q_fdiv, q_mod, q_pow, q_imul, q_mul, q_neg, q_is, q_nis, q_eq, q_ne, entry, List.map, List.replicate, m_is_size, e, hb, sizeB]
  | true =>
    cases d with
    | int i => simp [q_bnd, q_ok, q_er, q_bad, q_some, q_none, q_eC, q_eV, q_eZ, q_eOp, q_eUn, q_aNil, q_aCons, q_eTup, q_eLst, q_eApp, q_toB, q_bOf, q_tNo, q_tAn, q_tOt, q_eIf, q_eAn, q_eOt, q_eNo, q_eFn, q_eFnO, q_frv, q_fro, q_fre, q_foo, q_foe, q_sSet, q_sSetO, q_lok, q_ler, q_sNx, q_sSeq, q_sIf, q_sRet, q_sRetF, q_sDo, q_sRetO, q_sRaise, q_sFor, q_sUnp, q_sAug, q_sApp, q_sSetI, q_isOwn, q_setI, q_eIsi, q_iAny, q_it1, q_it2, q_it3, q_iR1, q_iZp, q_zp, q_eLc, q_eLc2, q_oNone, q_oSome, q_iOf, q_eSl, q_sTry, q_eXf, q_fn, q_lt, q_le, q_gt, q_ge, q_sub, q_add, q_iadd, q_fdiv, q_mod, q_pow, q_imul, q_mul, q_neg, q_is, q_nis, q_eq, q_ne, entry, List.map, List.replicate, m_is_size, e, hb, sizeB]
    | _ => cases hb
def sizesB : D → Bool
  | .tup xs => decide (xs.length ≤ 30) && xs.all sizeB
  | _ => false
def plain : D → Bool
  | .obj _ _ => false
  | .tup xs => xs.all fun x => !isObj x
  | _ => true
theorem bools_map (f : D → Bool) : ∀ xs : List D, bools (xs.map fun x => .bl (f x)) = some (xs.map f)
  | [] => rfl
  | x :: xs => by simp [bools, bools_map f xs]
theorem is_sizes {d : D} (h : plain d = true) : F_is_sizes [d] = .ok (.val (.bl (sizesB d))) := by
  cases d with
  | obj c fs => cases h
  | tup xs =>
    have hx : ∀ x ∈ xs, isObj x = false := fun x hx => by simpa using List.all_eq_true.mp h x hx
    have hi : isiB "tuple" (.tup xs) = some true := rfl
    unfold F_is_sizes
    by_cases hl : xs.length ≤ 30
    · obtain ⟨e, h1, h2⟩ := lc_map (t := tgN 1) (vs := [1]) (f := eFn F_is_size [] (aCons (eV 1) aNil)) (fun e => e = [some (.val (.tup xs)), none]) (fun x => .bl (sizeB x)) xs [some (.val (.tup xs)), none] [] rfl (by simp; omega) (by
        rintro d env hd rfl
        exact ⟨_, [some (.val (.tup xs)), some (.val d)], rfl, by simp [q_bnd, q_ok, q_er, q_bad, q_some, q_none, q_eC, q_eV, q_eZ, q_eOp, q_eUn, q_aNil, q_aCons, q_eTup, q_eLst, q_eApp, q_toB, q_bOf, q_tNo, q_tAn, q_tOt, q_eIf, q_eAn, q_eOt, q_eNo, q_eFn, q_eFnO, q_frv, q_fro, q_fre, q_foo, q_foe, q_sSet, q_sSetO, q_lok, q_ler, q_sNx, q_sSeq, q_sIf, q_sRet, q_sRetF, q_sDo, q_sRetO, q_sRaise, q_sFor, q_sUnp, q_sAug, q_sApp, q_sSetI, q_isOwn, q_setI, q_eIsi, q_iAny, q_it1, q_it2, q_it3, q_iR1, q_iZp, q_zp, q_eLc, q_eLc2, q_oNone, q_oSome, q_iOf, q_eSl, q_sTry, q_eXf, q_fn, q_lt, q_le, q_gt, q_ge, q_sub, q_add, q_iadd, q_fdiv, q_mod, q_pow, q_imul, q_mul, q_neg, q_is, q_nis, q_eq, q_ne, entry, List.map, List.replicate, is_size (hx d hd)], rfl⟩)
      subst h2
      have hl' : ((xs.length : Int) ≤ 30) = True := eq_true (by omega)
      simp [q_bnd, q_ok, q_er, q_bad, q_some, q_none, q_eC, q_eV, q_eZ, q_eOp, q_eUn, q_aNil, q_aCons, q_eTup, q_eLst, q_eApp, q_toB, q_bOf, q_tNo, q_tAn, q_tOt, q_eIf, q_eAn, q_eOt, q_eNo, q_eFn, q_eFnO, q_frv, q_fro, q_fre, q_foo, q_foe, q_sSet, q_sSetO, q_lok, q_ler, q_sNx, q_sSeq, q_sIf, q_sRet, q_sRetF, q_sDo, q_sRetO, q_sRaise, q_sFor, q_sUnp, q_sAug, q_sApp, q_sSetI, q_isOwn, q_setI, q_eIsi, q_iAny, q_it1, q_it2, q_it3, q_iR1, q_iZp, q_zp, q_eLc, q_eLc2, q_oNone, q_oSome, q_iOf, q_eSl, q_sTry, q_eXf, q_fn, q_lt, q_le, q_gt, q_ge, q_sub, q_add, q_iadd, q_fdiv, q_mod, q_pow, q_imul, q_mul, q_neg, q_is, q_nis, q_eq, q_ne, entry, List.map, List.replicate, m_is_sizes, hi, lenD, hl', wipeE, h1, allD, bools_map, sizesB, hl]
      first | done | (congr 1; simp [List.all_eq_true])
    · have hl' : ((xs.length : Int) ≤ 30) = False := eq_false (by omega)
      simp [q_bnd, q_ok, q_er, q_bad, q_some, q_none, q_eC, q_eV, q_eZ, q_eOp, q_eUn, q_aNil, q_aCons, q_eTup, q_eLst, q_eApp, q_toB, q_bOf, q_tNo, q_tAn, q_tOt, q_eIf, q_eAn, q_eOt, q_eNo, q_eFn, q_eFnO, q_frv, q_fro, q_fre, q_foo, q_foe, q_sSet, q_sSetO, q_lok, q_ler, q_sNx, q_sSeq, q_sIf, q_sRet, q_sRetF, q_sDo, q_sRetO, q_sRaise, q_sFor, q_sUnp, q_sAug, q_sApp, q_sSetI, q_isOwn, q_setI, q_eIsi, q_iAny, q_it1, q_it2, q_it3, q_iR1, q_iZp, q_zp, q_eLc, q_eLc2, q_oNone, q_oSome, q_iOf, q_eSl, q_sTry, q_eXf, q_fn, q_lt, q_le, q_gt, q_ge, q_sub, q_add, q_iadd, q_fdiv, q_mod, q_pow, q_imul, q_mul, q_neg, q_is, q_nis, q_eq, q_ne, entry, List.map, List.replicate, m_is_sizes, hi, lenD, hl', sizesB, hl]
  | _ => rfl
theorem check_sizes {d : D} (h : plain d = true) : F_check_sizes [d] = if sizesB d = true then .ok (.val .non) else .er 0 [("value", d)] := by
  have e := is_sizes h
  unfold F_check_sizes
  cases hb : sizesB d <;> simp [q_bnd, q_ok, q_er, q_bad, q_some, q_none, q_eC, q_eV, q_eZ, q_eOp, q_eUn, q_aNil, q_aCons, q_eTup, q_eLst, q_eApp, q_toB, q_bOf, q_tNo, q_tAn, q_tOt, q_eIf, q_eAn, q_eOt, q_eNo, q_eFn, q_eFnO, q_frv, q_fro, q_fre, q_foo, q_foe, q_sSet, q_sSetO, q_lok, q_ler, q_sNx, q_sSeq, q_sIf, q_sRet, q_sRetF, q_sDo, q_sRetO, q_sRaise, q_sFor, q_sUnp, q_sAug, q_sApp, q_sSetI, q_isOwn, q_setI, q_eIsi, q_iAny, q_it1, q_it2, q_it3, q_iR1, q_iZp, q_zp, q_eLc, q_eLc2, q_oNone, q_oSome, q_iOf, q_eSl, q_sTry, q_eXf, q_fn, q_lt, q_le, q_gt, q_ge, q_sub, q_add, q_iadd, q_fdiv, q_mod, q_pow, q_imul, q_mul, q_neg, q_is, q_nis, q_eq, q_ne, entry, List.map, List.replicate, m_check_sizes, e, hb]
/-! ### product -/
abbrev tI (S : List Int) : D := .tup (S.map .int)
def Good (S : List Int) : Prop := ∀ s ∈ S, 1 ≤ s ∧ s ≤ 4
def pr : List Int → Int
  | [] => 1
  | s :: S => s * pr S
theorem pr_fold : ∀ (S : List Int) (a : Int), S.foldl (· * ·) a = a * pr S
  | [], a => by simp [pr]
  | s :: S, a => by rw [List.foldl_cons, pr_fold S, pr, Int.mul_assoc]
theorem pr_pos : ∀ {S : List Int}, Good S → 1 ≤ pr S
  | [], _ => by simp [pr]
  | s :: S, h => by
    have h1 := (h s List.mem_cons_self).1
    have h2 := pr_pos (S := S) fun x hx => h x (List.mem_cons_of_mem _ hx)
    have : 1 * 1 ≤ s * pr S := Int.mul_le_mul h1 h2 (by omega) (by omega)
    simpa [pr] using this
theorem pr_le : ∀ {S : List Int}, Good S → pr S ≤ 4 ^ S.length
  | [], _ => by simp [pr]
  | s :: S, h => by
    have h0 := h s List.mem_cons_self
    have h1 := pr_pos (S := S) fun x hx => h x (List.mem_cons_of_mem _ hx)
    have h2 := pr_le (S := S) fun x hx => h x (List.mem_cons_of_mem _ hx)
    have : s * pr S ≤ 4 * 4 ^ S.length := Int.mul_le_mul h0.2 h2 (by omega) (by omega)
    rw [List.length_cons, Int.pow_succ, pr]
    omega
theorem plain_tI (S : List Int) : plain (tI S) = true := by
  simp [plain, isObj]
theorem sizesB_tI {S : List Int} (h : Good S) (hl : S.length ≤ 30) : sizesB (tI S) = true := by
  simp only [sizesB, List.length_map, Bool.and_eq_true, decide_eq_true_eq, List.all_eq_true, List.mem_map]
  refine ⟨hl, ?_⟩
  rintro x ⟨s, hs, rfl⟩
  have := h s hs
  simp [sizeB, intB]
  omega
theorem product {S : List Int} (h : Good S) : F_product [tI S] = .ok (.val (.int (pr S))) := by
  obtain ⟨e, h1, c, rfl⟩ := loop_ints (t := tgN 2) (b := sAug 1 imulD (eV 2)) (fun x env => ∃ c, env = [some (.val (tI S)), some (.val (.int x)), c]) (fun x i => x * i) S 1 [some (.val (tI S)), some (.val (.int 1)), none] ⟨none, rfl⟩ (by
    rintro x i env hi ⟨c, rfl⟩
    have := h i hi
    have hc : x.natAbs < 18446744073709551616 ∨ i.natAbs < 18446744073709551616 := .inr (by omega)
    exact ⟨_, [some (.val (tI S)), some (.val (.int (x * i))), some (.val (.int i))], rfl, by simp [q_bnd, q_ok, q_er, q_bad, q_some, q_none, q_eC, q_eV, q_eZ, q_eOp, q_eUn, q_aNil, q_aCons, q_eTup, q_eLst, q_eApp, q_toB, q_bOf, q_tNo, q_tAn, q_tOt, q_eIf, q_eAn, q_eOt, q_eNo, q_eFn, q_eFnO, q_frv, q_fro, q_fre, q_foo, q_foe, q_sSet, q_sSetO, q_lok, q_ler, q_sNx, q_sSeq, q_sIf, q_sRet, q_sRetF, q_sDo, q_sRetO, q_sRaise, q_sFor, q_sUnp, q_sAug, q_sApp, q_sSetI, q_isOwn, q_setI, q_eIsi, q_iAny, q_it1, q_it2, q_it3, q_iR1, q_iZp, q_zp, q_eLc, q_eLc2, q_oNone, q_oSome, q_iOf, q_eSl, q_sTry, q_eXf, q_fn, q_lt, q_le, q_gt, q_ge, q_sub, q_add, q_iadd, q_fdiv, q_mod, q_pow, q_imul, q_mul, q_neg, q_is, q_nis, q_eq, q_ne, entry, List.map, List.replicate, hc], _, rfl⟩)
  unfold F_product
  rw [pr_fold, Int.one_mul] at h1
  simp [q_bnd, q_ok, q_er, q_bad, q_some, q_none, q_eC, q_eV, q_eZ, q_eOp, q_eUn, q_aNil, q_aCons, q_eTup, q_eLst, q_eApp, q_toB, q_bOf, q_tNo, q_tAn, q_tOt, q_eIf, q_eAn, q_eOt, q_eNo, q_eFn, q_eFnO, q_frv, q_fro, q_fre, q_foo, q_foe, q_sSet, q_sSetO, q_lok, q_ler, q_sNx, q_sSeq, q_sIf, q_sRet, q_sRetF, q_sDo, q_sRetO, q_sRaise, q_sFor, q_sUnp, q_sAug, q_sApp, q_sSetI, q_isOwn, q_setI, q_eIsi, q_iAny, q_it1, q_it2, q_it3, q_iR1, q_iZp, q_zp, q_eLc, q_eLc2, q_oNone, q_oSome, q_iOf, q_eSl, q_sTry, q_eXf, q_fn, q_lt, q_le, q_gt, q_ge, q_sub, q_add, q_iadd, q_fdiv, q_mod, q_pow, q_imul, q_mul, q_neg, q_is, q_nis, q_eq, q_ne, entry, List.map, List.replicate, m_product, h1]
theorem size_product {S : List Int} (h : Good S) (hl : S.length ≤ 30) : F_size_product [tI S] = .ok (.val (.int (pr S))) := by
  have e1 := check_sizes (plain_tI S)
  rw [if_pos (sizesB_tI h hl)] at e1
  have e2 := product h
  unfold F_size_product
  simp [q_bnd, q_ok, q_er, q_bad, q_some, q_none, q_eC, q_eV, q_eZ, q_eOp, q_eUn, q_aNil, q_aCons, q_eTup, q_eLst, q_eApp, q_toB, q_bOf, q_tNo, q_tAn, q_tOt, q_eIf, q_eAn, q_eOt, q_eNo, q_eFn, q_eFnO, q_frv, q_fro, q_fre, q_foo, q_foe, q_sSet, q_sSetO, q_lok, q_ler, q_sNx, q_sSeq, q_sIf, q_sRet, q_sRetF, q_sDo, q_sRetO, q_sRaise, q_sFor, q_sUnp, q_sAug, q_sApp, q_sSetI, q_isOwn, q_setI, q_eIsi, q_iAny, q_it1, q_it2, q_it3, q_iR1, q_iZp, q_zp, q_eLc, q_eLc2, q_oNone, q_oSome, q_iOf, q_eSl, q_sTry, q_eXf, q_fn, q_lt, q_le, q_gt, q_ge, q_sub, q_add, q_iadd, q_fdiv, q_mod, q_pow, q_imul, q_mul, q_neg, q_is, q_nis, q_eq, q_ne, entry, List.map, List.replicate, m_size_product, e1, e2]
theorem size_product_bad {d : D} (h : plain d = true) (hb : sizesB d = false) : F_size_product [d] = .er 0 [("value", d)] := by
  have e1 := check_sizes h
  rw [hb, if_neg Bool.false_ne_true] at e1
  unfold F_size_product
  simp [q_bnd, q_ok, q_er, q_bad, q_some, q_none, q_eC, q_eV, q_eZ, q_eOp, q_eUn, q_aNil, q_aCons, q_eTup, q_eLst, q_eApp, q_toB, q_bOf, q_tNo, q_tAn, q_tOt, q_eIf, q_eAn, q_eOt, q_eNo, q_eFn, q_eFnO, q_frv, q_fro, q_fre, q_foo, q_foe, q_sSet, q_sSetO, q_lok, q_ler, q_sNx, q_sSeq, q_sIf, q_sRet, q_sRetF, q_sDo, q_sRetO, q_sRaise, q_sFor, q_sUnp, q_sAug, q_sApp, q_sSetI, q_isOwn, q_setI, q_eIsi, q_iAny, q_it1, q_it2, q_it3, q_iR1, q_iZp, q_zp, q_eLc, q_eLc2, q_oNone, q_oSome, q_iOf, q_eSl, q_sTry, q_eXf, q_fn, q_lt, q_le, q_gt, q_ge, q_sub, q_add, q_iadd, q_fdiv, q_mod, q_pow, q_imul, q_mul, q_neg, q_is, q_nis, q_eq, q_ne, entry, List.map, List.replicate, m_size_product, e1]
/-! ### values -/
def itemB (x : D) (s : Int) : Bool := intB x 0 && (match x with | .int i => decide (i < s) | _ => false)
def pairB : D → Bool
  | .tup [x, .int s] => itemB x s
  | _ => false
def valuesB (S : List Int) : D → Bool
  | .tup xs => decide (xs.length = S.length) && (zipL xs (S.map .int)).all pairB
  | _ => false
theorem zip_mem : ∀ {xs ys : List D} {p : D}, p ∈ zipL xs ys → ∃ x y, p = .tup [x, y] ∧ x ∈ xs ∧ y ∈ ys
  | [], ys, p, h => by simp [zipL] at h
  | x :: xs, [], p, h => by simp [zipL] at h
  | x :: xs, y :: ys, p, h => by
    rw [zipL] at h
    rcases List.mem_cons.mp h with h | h
    · exact ⟨x, y, h, List.mem_cons_self, List.mem_cons_self⟩
    · obtain ⟨a, b, e, h1, h2⟩ := zip_mem h
      exact ⟨a, b, e, List.mem_cons_of_mem _ h1, List.mem_cons_of_mem _ h2⟩
theorem eqI (i j : Int) : eqB (.int i) (.int j) = some (decide (i = j)) := by
  simp [eqB, toPy, SeqAt.shaped, PyData.canLay0, PyData.depth, PyData.eqv]
  rfl
theorem is_values {S : List Int} {d : D} (h : plain d = true) (hl : S.length ≤ 30) : F_is_values [tI S, d] = .ok (.val (.bl (valuesB S d))) := by
  cases d with
  | obj c fs => cases h
  | tup xs =>
    have hx : ∀ x ∈ xs, isObj x = false := fun x hx => by simpa using List.all_eq_true.mp h x hx
    have hi : isiB "tuple" (.tup xs) = some true := rfl
    unfold F_is_values
    by_cases hn : xs.length = S.length
    · obtain ⟨e, h1, h2⟩ := lc_map (t := tgT (tgCons (tgN 2) (tgCons (tgN 3) tgNil))) (vs := [2, 3]) (f := eAn (eFn F_is_integer [.int 0] (aCons (eV 2) aNil)) (eOp ltD (eV 2) (eV 3))) (fun e => e = [some (.val (tI S)), some (.val (.tup xs)), none, none]) (fun p => .bl (pairB p)) (zipL xs (S.map .int)) [some (.val (tI S)), some (.val (.tup xs)), none, none] [] rfl (by rw [zipL_len]; simp; omega) (by
        rintro p env hp rfl
        obtain ⟨x, y, rfl, h1, h2⟩ := zip_mem hp
        obtain ⟨s, _, rfl⟩ := List.mem_map.mp h2
        have e := is_integer 0 (hx x h1)
        refine ⟨_, [some (.val (tI S)), some (.val (.tup xs)), some (.val x), some (.val (.int s))], rfl, ?_, rfl⟩
        cases hb : intB x 0 with
        | false => simp [q_bnd, q_ok, q_er, q_bad, q_some, q_none, q_eC, q_eV, q_eZ, q_eOp, q_eUn, q_aNil, q_aCons, q_eTup, q_eLst, q_eApp, q_toB, q_bOf, q_tNo, q_tAn, q_tOt, q_eIf, q_eAn, q_eOt, q_eNo, q_eFn, q_eFnO, q_frv, q_fro, q_fre, q_foo, q_foe, q_sSet, q_sSetO, q_lok, q_ler, q_sNx, q_sSeq, q_sIf, q_sRet, q_sRetF, q_sDo, q_sRetO, q_sRaise, q_sFor, q_sUnp, q_sAug, q_sApp, q_sSetI, q_isOwn, q_setI, q_eIsi, q_iAny, q_it1, q_it2, q_it3, q_iR1, q_iZp, q_zp, q_eLc, q_eLc2, q_oNone, q_oSome, q_iOf, q_eSl, q_sTry, q_eXf, q_fn, q_lt, q_le, q_gt, q_ge, q_sub, q_add, q_iadd, q_fdiv, q_mod, q_pow, q_imul, q_mul, q_neg, q_is, q_nis, q_eq, q_ne, entry, List.map, List.replicate, e, hb, pairB, itemB]
        | true =>
          cases x with
          | int i => simp [q_bnd, q_ok, q_er, q_bad, q_some, q_none, q_eC, q_eV, q_eZ, q_eOp, q_eUn, q_aNil, q_aCons, q_eTup, q_eLst, q_eApp, q_toB, q_bOf, q_tNo, q_tAn, q_tOt, q_eIf, q_eAn, q_eOt, q_eNo, q_eFn, q_eFnO, q_frv, q_fro, q_fre, q_foo, q_foe, q_sSet, q_sSetO, q_lok, q_ler, q_sNx, q_sSeq, q_sIf, q_sRet, q_sRetF, q_sDo, q_sRetO, q_sRaise, q_sFor, q_sUnp, q_sAug, q_sApp, q_sSetI, q_isOwn, q_setI, q_eIsi, q_iAny, q_it1, q_it2, q_it3, q_iR1, q_iZp, q_zp, q_eLc, q_eLc2, q_oNone, q_oSome, q_iOf, q_eSl, q_sTry, q_eXf, q_fn, q_lt, q_le, q_gt, q_ge, q_sub, q_add, q_iadd, q_fdiv, q_mod, q_pow, q_imul, q_mul, q_neg, q_is, q_nis, q_eq, q_ne, entry, List.map, List.replicate, e, hb, pairB, itemB]
          | _ => cases hb)
      subst h2
      simp [q_bnd, q_ok, q_er, q_bad, q_some, q_none, q_eC, q_eV, q_eZ, q_eOp, q_eUn, q_aNil, q_aCons, q_eTup, q_eLst, q_eApp, q_toB, q_bOf, q_tNo, q_tAn, q_tOt, q_eIf, q_eAn, q_eOt, q_eNo, q_eFn, q_eFnO, q_frv, q_fro, q_fre, q_foo, q_foe, q_sSet, q_sSetO, q_lok, q_ler, q_sNx, q_sSeq, q_sIf, q_sRet, q_sRetF, q_sDo, q_sRetO, q_sRaise, q_sFor, q_sUnp, q_sAug, q_sApp, q_sSetI, q_isOwn, q_setI, q_eIsi, q_iAny, q_it1, q_it2, q_it3, q_iR1, q_iZp, q_zp, q_eLc, q_eLc2, q_oNone, q_oSome, q_iOf, q_eSl, q_sTry, q_eXf, q_fn, q_lt, q_le, q_gt, q_ge, q_sub, q_add, q_iadd, q_fdiv, q_mod, q_pow, q_imul, q_mul, q_neg, q_is, q_nis, q_eq, q_ne, entry, List.map, List.replicate, m_is_values, hi, lenD, eqI, hn, wipeE, h1, allD, bools_map, valuesB]
      first | done | (congr 1; simp [List.all_eq_true])
    · have hn' : ((xs.length : Int) = S.length) = False := eq_false (by omega)
      simp [q_bnd, q_ok, q_er, q_bad, q_some, q_none, q_eC, q_eV, q_eZ, q_eOp, q_eUn, q_aNil, q_aCons, q_eTup, q_eLst, q_eApp, q_toB, q_bOf, q_tNo, q_tAn, q_tOt, q_eIf, q_eAn, q_eOt, q_eNo, q_eFn, q_eFnO, q_frv, q_fro, q_fre, q_foo, q_foe, q_sSet, q_sSetO, q_lok, q_ler, q_sNx, q_sSeq, q_sIf, q_sRet, q_sRetF, q_sDo, q_sRetO, q_sRaise, q_sFor, q_sUnp, q_sAug, q_sApp, q_sSetI, q_isOwn, q_setI, q_eIsi, q_iAny, q_it1, q_it2, q_it3, q_iR1, q_iZp, q_zp, q_eLc, q_eLc2, q_oNone, q_oSome, q_iOf, q_eSl, q_sTry, q_eXf, q_fn, q_lt, q_le, q_gt, q_ge, q_sub, q_add, q_iadd, q_fdiv, q_mod, q_pow, q_imul, q_mul, q_neg, q_is, q_nis, q_eq, q_ne, entry, List.map, List.replicate, m_is_values, hi, lenD, eqI, hn', hn, valuesB]
  | _ => rfl
theorem check_values {S : List Int} {d : D} (h : plain d = true) (hl : S.length ≤ 30) : F_check_values [tI S, d] = if valuesB S d = true then .ok (.val .non) else .er 1 [("value", d)] := by
  have e := is_values h hl
  unfold F_check_values
  cases hb : valuesB S d <;> simp [q_bnd, q_ok, q_er, q_bad, q_some, q_none, q_eC, q_eV, q_eZ, q_eOp, q_eUn, q_aNil, q_aCons, q_eTup, q_eLst, q_eApp, q_toB, q_bOf, q_tNo, q_tAn, q_tOt, q_eIf, q_eAn, q_eOt, q_eNo, q_eFn, q_eFnO, q_frv, q_fro, q_fre, q_foo, q_foe, q_sSet, q_sSetO, q_lok, q_ler, q_sNx, q_sSeq, q_sIf, q_sRet, q_sRetF, q_sDo, q_sRetO, q_sRaise, q_sFor, q_sUnp, q_sAug, q_sApp, q_sSetI, q_isOwn, q_setI, q_eIsi, q_iAny, q_it1, q_it2, q_it3, q_iR1, q_iZp, q_zp, q_eLc, q_eLc2, q_oNone, q_oSome, q_iOf, q_eSl, q_sTry, q_eXf, q_fn, q_lt, q_le, q_gt, q_ge, q_sub, q_add, q_iadd, q_fdiv, q_mod, q_pow, q_imul, q_mul, q_neg, q_is, q_nis, q_eq, q_ne, entry, List.map, List.replicate, m_check_values, e, hb]
/-! ### index_of, values_at -/
def idx : List Int → List Int → Int → Int
  | s :: S, v :: V, r => idx S V (r * s + v)
  | _, _, r => r
theorem loop_idx {a b : Option Cell} : ∀ (S V : List Int) (r : Int) (c d : Option Cell), Good S → ∃ c' d', loopS (tgT (tgCons (tgN 3) (tgCons (tgN 4) tgNil))) (sSet 2 (eOp addD (eOp mulD (eV 2) (eV 3)) (eV 4))) (zipL (S.map .int) (V.map .int)) [a, b, some (.val (.int r)), c, d] = .nx [a, b, some (.val (.int (idx S V r))), c', d']
  | [], V, r, c, d, _ => ⟨c, d, by simp [zipL, loopS, idx]⟩
  | s :: S, [], r, c, d, _ => ⟨c, d, by simp [zipL, loopS, idx]⟩
  | s :: S, v :: V, r, c, d, h => by
    obtain ⟨c', d', ih⟩ := loop_idx (a := a) (b := b) S V (r * s + v) (some (.val (.int s))) (some (.val (.int v))) fun x hx => h x (List.mem_cons_of_mem _ hx)
    have hs := h s List.mem_cons_self
    have hc : r.natAbs < 18446744073709551616 ∨ s.natAbs < 18446744073709551616 ∨ r.natAbs.log2 + s.natAbs.log2 < 1000000 := .inr (.inl (by omega))
    refine ⟨c', d', ?_⟩
    rw [List.map_cons, List.map_cons, zipL]
    unfold loopS
    simp [q_bnd, q_ok, q_er, q_bad, q_some, q_none, q_eC, q_eV, q_eZ, q_eOp, q_eUn, q_aNil, q_aCons, q_eTup, q_eLst, q_eApp, q_toB, q_bOf, q_tNo, q_tAn, q_tOt, q_eIf, q_eAn, q_eOt, q_eNo, q_eFn, q_eFnO, q_frv, q_fro, q_fre, q_foo, q_foe, q_sSet, q_sSetO, q_lok, q_ler, q_sNx, q_sSeq, q_sIf, q_sRet, q_sRetF, q_sDo, q_sRetO, q_sRaise, q_sFor, q_sUnp, q_sAug, q_sApp, q_sSetI, q_isOwn, q_setI, q_eIsi, q_iAny, q_it1, q_it2, q_it3, q_iR1, q_iZp, q_zp, q_eLc, q_eLc2, q_oNone, q_oSome, q_iOf, q_eSl, q_sTry, q_eXf, q_fn, q_lt, q_le, q_gt, q_ge, q_sub, q_add, q_iadd, q_fdiv, q_mod, q_pow, q_imul, q_mul, q_neg, q_is, q_nis, q_eq, q_ne, entry, List.map, List.replicate, tgT, tgCons, tgN, tgNil, hc, ih, idx]
theorem index_of {S V : List Int} (h : Good S) (hl : S.length ≤ 30) (hv : valuesB S (tI V) = true) : F_index_of [tI S, tI V] = .ok (.val (.int (idx S V 0))) := by
  have e1 := check_sizes (plain_tI S)
  rw [if_pos (sizesB_tI h hl)] at e1
  have e2 := check_values (S := S) (plain_tI V) hl
  rw [if_pos hv] at e2
  obtain ⟨c, d, e3⟩ := loop_idx (a := some (.val (tI S))) (b := some (.val (tI V))) S V 0 none none h
  unfold F_index_of
  simp [q_bnd, q_ok, q_er, q_bad, q_some, q_none, q_eC, q_eV, q_eZ, q_eOp, q_eUn, q_aNil, q_aCons, q_eTup, q_eLst, q_eApp, q_toB, q_bOf, q_tNo, q_tAn, q_tOt, q_eIf, q_eAn, q_eOt, q_eNo, q_eFn, q_eFnO, q_frv, q_fro, q_fre, q_foo, q_foe, q_sSet, q_sSetO, q_lok, q_ler, q_sNx, q_sSeq, q_sIf, q_sRet, q_sRetF, q_sDo, q_sRetO, q_sRaise, q_sFor, q_sUnp, q_sAug, q_sApp, q_sSetI, q_isOwn, q_setI, q_eIsi, q_iAny, q_it1, q_it2, q_it3, q_iR1, q_iZp, q_zp, q_eLc, q_eLc2, q_oNone, q_oSome, q_iOf, q_eSl, q_sTry, q_eXf, q_fn, q_lt, q_le, q_gt, q_ge, q_sub, q_add, q_iadd, q_fdiv, q_mod, q_pow, q_imul, q_mul, q_neg, q_is, q_nis, q_eq, q_ne, entry, List.map, List.replicate, m_index_of, e1, e2, e3]
theorem index_of_bad {d b : D} (h : plain d = true) (hb : sizesB d = false) : F_index_of [d, b] = .er 0 [("value", d)] := by
  have e1 := check_sizes h
  rw [hb, if_neg Bool.false_ne_true] at e1
  unfold F_index_of
  simp [q_bnd, q_ok, q_er, q_bad, q_some, q_none, q_eC, q_eV, q_eZ, q_eOp, q_eUn, q_aNil, q_aCons, q_eTup, q_eLst, q_eApp, q_toB, q_bOf, q_tNo, q_tAn, q_tOt, q_eIf, q_eAn, q_eOt, q_eNo, q_eFn, q_eFnO, q_frv, q_fro, q_fre, q_foo, q_foe, q_sSet, q_sSetO, q_lok, q_ler, q_sNx, q_sSeq, q_sIf, q_sRet, q_sRetF, q_sDo, q_sRetO, q_sRaise, q_sFor, q_sUnp, q_sAug, q_sApp, q_sSetI, q_isOwn, q_setI, q_eIsi, q_iAny, q_it1, q_it2, q_it3, q_iR1, q_iZp, q_zp, q_eLc, q_eLc2, q_oNone, q_oSome, q_iOf, q_eSl, q_sTry, q_eXf, q_fn, q_lt, q_le, q_gt, q_ge, q_sub, q_add, q_iadd, q_fdiv, q_mod, q_pow, q_imul, q_mul, q_neg, q_is, q_nis, q_eq, q_ne, entry, List.map, List.replicate, m_index_of, e1]
theorem index_of_bad2 {S : List Int} {d : D} (h : Good S) (hl : S.length ≤ 30) (hp : plain d = true) (hb : valuesB S d = false) : F_index_of [tI S, d] = .er 1 [("value", d)] := by
  have e1 := check_sizes (plain_tI S)
  rw [if_pos (sizesB_tI h hl)] at e1
  have e2 := check_values (S := S) hp hl
  rw [hb, if_neg Bool.false_ne_true] at e2
  unfold F_index_of
  simp [q_bnd, q_ok, q_er, q_bad, q_some, q_none, q_eC, q_eV, q_eZ, q_eOp, q_eUn, q_aNil, q_aCons, q_eTup, q_eLst, q_eApp, q_toB, q_bOf, q_tNo, q_tAn, q_tOt, q_eIf, q_eAn, q_eOt, q_eNo, q_eFn, q_eFnO, q_frv, q_fro, q_fre, q_foo, q_foe, q_sSet, q_sSetO, q_lok, q_ler, q_sNx, q_sSeq, q_sIf, q_sRet, q_sRetF, q_sDo, q_sRetO, q_sRaise, q_sFor, q_sUnp, q_sAug, q_sApp, q_sSetI, q_isOwn, q_setI, q_eIsi, q_iAny, q_it1, q_it2, q_it3, q_iR1, q_iZp, q_zp, q_eLc, q_eLc2, q_oNone, q_oSome, q_iOf, q_eSl, q_sTry, q_eXf, q_fn, q_lt, q_le, q_gt, q_ge, q_sub, q_add, q_iadd, q_fdiv, q_mod, q_pow, q_imul, q_mul, q_neg, q_is, q_nis, q_eq, q_ne, entry, List.map, List.replicate, m_index_of, e1, e2]
def vat : List Int → Int → List Int
  | [], _ => []
  | _ :: S, n => n / pr S :: vat S (n % pr S)
theorem loop_vat {a : Option Cell} : ∀ (S : List Int) (n : Int) (acc : List Int) (c d : Option Cell), Good S → S.length ≤ 30 → acc.length + S.length ≤ 1000 → ∃ n' r' c' d', loopS (tgN 4) (sSeq (sAug 2 fdivD (eV 4))
    (sSeq (sUnp (tgT (tgCons (tgN 5) (tgCons (tgN 1) (tgNil)))) (eApp divmodD (aCons (eV 1) (aCons (eV 2) (aNil)))))
    (sApp 3 (eV 5)))) (S.map .int) [a, some (.val (.int n)), some (.val (.int (pr S))), some (.own (.lst (acc.map .int))), c, d] = .nx [a, n', r', some (.own (.lst ((acc ++ vat S n).map .int))), c', d']
  | [], n, acc, c, d, _, _, _ => ⟨some (.val (.int n)), some (.val (.int (pr []))), c, d, by simp [loopS, vat]⟩
  | s :: S, n, acc, c, d, h, hl, ha => by
    have hS : Good S := fun x hx => h x (List.mem_cons_of_mem _ hx)
    have hs := h s List.mem_cons_self
    have hp := pr_pos hS
    have hp2 := pr_le hS
    simp only [List.length_cons] at hl ha
    have hpow : (4 : Int) ^ S.length ≤ 4 ^ 30 := by
      have := Nat.pow_le_pow_right (n := 4) (by decide) (show S.length ≤ 30 by omega)
      exact_mod_cast this
    have hlog : (pr S).natAbs.log2 < 9000 := by
      rw [Nat.log2_lt (by omega)]
      have : (pr S).natAbs ≤ 4 ^ 30 := by omega
      exact Nat.lt_of_le_of_lt this (by decide +kernel)
    have hlog2 : s.natAbs.log2 < 9000 := by
      rw [Nat.log2_lt (by omega)]
      have : s.natAbs ≤ 4 := by omega
      exact Nat.lt_of_le_of_lt this (by decide +kernel)
    have e1 : s * pr S / s = pr S := Int.mul_ediv_cancel_left _ (by omega)
    obtain ⟨n', r', c', d', ih⟩ := loop_vat (a := a) S (n % pr S) (acc ++ [n / pr S]) (some (.val (.int s))) (some (.val (.int (n / pr S)))) hS (by omega) (by simp; omega)
    refine ⟨n', r', c', d', ?_⟩
    rw [List.map_cons]
    unfold loopS
    have c1 : (0 < s ∧ s.natAbs.log2 < 9000) := ⟨by omega, hlog2⟩
    have c2 : (0 < pr S ∧ (pr S).natAbs.log2 < 9000) := ⟨by omega, hlog⟩
    have c3 : acc.length < 1000000 := by omega
    simp [q_bnd, q_ok, q_er, q_bad, q_some, q_none, q_eC, q_eV, q_eZ, q_eOp, q_eUn, q_aNil, q_aCons, q_eTup, q_eLst, q_eApp, q_toB, q_bOf, q_tNo, q_tAn, q_tOt, q_eIf, q_eAn, q_eOt, q_eNo, q_eFn, q_eFnO, q_frv, q_fro, q_fre, q_foo, q_foe, q_sSet, q_sSetO, q_lok, q_ler, q_sNx, q_sSeq, q_sIf, q_sRet, q_sRetF, q_sDo, q_sRetO, q_sRaise, q_sFor, q_sUnp, q_sAug, q_sApp, q_sSetI, q_isOwn, q_setI, q_eIsi, q_iAny, q_it1, q_it2, q_it3, q_iR1, q_iZp, q_zp, q_eLc, q_eLc2, q_oNone, q_oSome, q_iOf, q_eSl, q_sTry, q_eXf, q_fn, q_lt, q_le, q_gt, q_ge, q_sub, q_add, q_iadd, q_fdiv, q_mod, q_pow, q_imul, q_mul, q_neg, q_is, q_nis, q_eq, q_ne, entry, List.map, List.replicate, tgT, tgCons, tgN, tgNil, c1, pr, e1, divmodD, c2, c3]
    simpa [vat] using ih
theorem values_at {S : List Int} {n : Int} (h : Good S) (hl : S.length ≤ 30) (h0 : 0 ≤ n) (hn : n < pr S) : F_values_at [tI S, .int n] = .ok (.val (tI (vat S n))) := by
  have e1 := size_product h hl
  have e2 := is_integer (d := .int n) 0 rfl
  have e3 : intB (.int n) 0 = true := by simp [intB, h0]
  rw [e3] at e2
  have e4 : ¬ (pr S ≤ n) := by omega
  obtain ⟨n', r', c', d', e5⟩ := loop_vat (a := some (.val (tI S))) S n [] none none h hl (by simp; omega)
  unfold F_values_at
  simp only [List.map_nil, List.nil_append] at e5
  simp [q_bnd, q_ok, q_er, q_bad, q_some, q_none, q_eC, q_eV, q_eZ, q_eOp, q_eUn, q_aNil, q_aCons, q_eTup, q_eLst, q_eApp, q_toB, q_bOf, q_tNo, q_tAn, q_tOt, q_eIf, q_eAn, q_eOt, q_eNo, q_eFn, q_eFnO, q_frv, q_fro, q_fre, q_foo, q_foe, q_sSet, q_sSetO, q_lok, q_ler, q_sNx, q_sSeq, q_sIf, q_sRet, q_sRetF, q_sDo, q_sRetO, q_sRaise, q_sFor, q_sUnp, q_sAug, q_sApp, q_sSetI, q_isOwn, q_setI, q_eIsi, q_iAny, q_it1, q_it2, q_it3, q_iR1, q_iZp, q_zp, q_eLc, q_eLc2, q_oNone, q_oSome, q_iOf, q_eSl, q_sTry, q_eXf, q_fn, q_lt, q_le, q_gt, q_ge, q_sub, q_add, q_iadd, q_fdiv, q_mod, q_pow, q_imul, q_mul, q_neg, q_is, q_nis, q_eq, q_ne, entry, List.map, List.replicate, m_values_at, e1, e2, e4, e5, tupleD]
theorem values_at_bad {d b : D} (h : plain d = true) (hb : sizesB d = false) : F_values_at [d, b] = .er 0 [("value", d)] := by
  have e1 := size_product_bad h hb
  unfold F_values_at
  simp [q_bnd, q_ok, q_er, q_bad, q_some, q_none, q_eC, q_eV, q_eZ, q_eOp, q_eUn, q_aNil, q_aCons, q_eTup, q_eLst, q_eApp, q_toB, q_bOf, q_tNo, q_tAn, q_tOt, q_eIf, q_eAn, q_eOt, q_eNo, q_eFn, q_eFnO, q_frv, q_fro, q_fre, q_foo, q_foe, q_sSet, q_sSetO, q_lok, q_ler, q_sNx, q_sSeq, q_sIf, q_sRet, q_sRetF, q_sDo, q_sRetO, q_sRaise, q_sFor, q_sUnp, q_sAug, q_sApp, q_sSetI, q_isOwn, q_setI, q_eIsi, q_iAny, q_it1, q_it2, q_it3, q_iR1, q_iZp, q_zp, q_eLc, q_eLc2, q_oNone, q_oSome, q_iOf, q_eSl, q_sTry, q_eXf, q_fn, q_lt, q_le, q_gt, q_ge, q_sub, q_add, q_iadd, q_fdiv, q_mod, q_pow, q_imul, q_mul, q_neg, q_is, q_nis, q_eq, q_ne, entry, List.map, List.replicate, m_values_at, e1]
def numB (S : List Int) (d : D) : Bool := intB d 0 && (match d with | .int i => decide (i < pr S) | _ => false)
theorem values_at_bad2 {S : List Int} {d : D} (h : Good S) (hl : S.length ≤ 30) (hp : isObj d = false) (hb : numB S d = false) : F_values_at [tI S, d] = .er 2 [("value", d)] := by
  have e1 := size_product h hl
  have e2 := is_integer 0 hp
  unfold F_values_at
  cases hi : intB d 0 with
  | false => simp [q_bnd, q_ok, q_er, q_bad, q_some, q_none, q_eC, q_eV, q_eZ, q_eOp, q_eUn, q_aNil, q_aCons, q_eTup, q_eLst, q_eApp, q_toB, q_bOf, q_tNo, q_tAn, q_tOt, q_eIf, q_eAn, q_eOt, q_eNo, q_eFn, q_eFnO, q_frv, q_fro, q_fre, q_foo, q_foe, q_sSet, q_sSetO, q_lok, q_ler, q_sNx, q_sSeq, q_sIf, q_sRet, q_sRetF, q_sDo, q_sRetO, q_sRaise, q_sFor, q_sUnp, q_sAug, q_sApp, q_sSetI, q_isOwn, q_setI, q_eIsi, q_iAny, q_it1, q_it2, q_it3, q_iR1, q_iZp, q_zp, q_eLc, q_eLc2, q_oNone, q_oSome, q_iOf, q_eSl, q_sTry, q_eXf, q_fn, q_lt, q_le, q_gt, q_ge, q_sub, q_add, q_iadd, q_fdiv, q_mod, q_pow, q_imul, q_mul, q_neg, q_is, q_nis, q_eq, q_ne, entry, List.map, List.replicate, m_values_at, e1, e2, hi]
  | true =>
    cases d with
    | int i =>
      have e3 : pr S ≤ i := by
        simp only [numB, hi, Bool.true_and, decide_eq_false_iff_not] at hb
        omega
      simp [q_bnd, q_ok, q_er, q_bad, q_some, q_none, q_eC, q_eV, q_eZ, q_eOp, q_eUn, q_aNil, q_aCons, q_eTup, q_eLst, q_eApp, q_toB, q_bOf, q_tNo, q_tAn, q_tOt, q_eIf, q_eAn, q_eOt, q_eNo, q_eFn, q_eFnO, q_frv, q_fro, q_fre, q_foo, q_foe, q_sSet, q_sSetO, q_lok, q_ler, q_sNx, q_sSeq, q_sIf, q_sRet, q_sRetF, q_sDo, q_sRetO, q_sRaise, q_sFor, q_sUnp, q_sAug, q_sApp, q_sSetI, q_isOwn, q_setI, q_eIsi, q_iAny, q_it1, q_it2, q_it3, q_iR1, q_iZp, q_zp, q_eLc, q_eLc2, q_oNone, q_oSome, q_iOf, q_eSl, q_sTry, q_eXf, q_fn, q_lt, q_le, q_gt, q_ge, q_sub, q_add, q_iadd, q_fdiv, q_mod, q_pow, q_imul, q_mul, q_neg, q_is, q_nis, q_eq, q_ne, entry, List.map, List.replicate, m_values_at, e1, e2, hi, e3]
    | _ => cases hi
/-! ### all_values -/
abbrev lT (L : List (List Int)) : D := .lst (L.map tI)
def ext (L : List (List Int)) (s : Int) : List (List Int) := L.flatMap fun p => (List.range s.toNat).map fun (i : Nat) => p ++ [(i : Int)]
def allV (S : List Int) : List (List Int) := S.foldl ext [[]]
theorem ext_len (s : Int) : ∀ L : List (List Int), (ext L s).length = L.length * s.toNat
  | [] => by simp [ext]
  | p :: L => by
    have := ext_len s L
    unfold ext at *
    rw [List.flatMap_cons, List.length_append, this]
    simp [Nat.add_mul, Nat.add_comm]
theorem ext_map (s : Int) (L : List (List Int)) : (ext L s).map tI = (L.map tI).flatMap fun d => match d with
    | .tup xs => (rangeL 0 s.toNat).map fun i => .tup (xs ++ [i])
    | _ => [] := by
  unfold ext
  rw [List.map_flatMap, List.flatMap_map]
  congr 1
  funext p
  rw [rangeL_map]
  simp [Function.comp_def]
theorem ext_bound {L : List (List Int)} {s : Int} {m : Nat} (h : ∀ p ∈ L, p.length ≤ m) : ∀ p ∈ ext L s, p.length ≤ m + 1 := by
  intro p hp
  unfold ext at hp
  obtain ⟨q, hq, hp⟩ := List.mem_flatMap.mp hp
  obtain ⟨i, _, rfl⟩ := List.mem_map.mp hp
  have := h q hq
  simp
  exact this
theorem row_lc {a b c : Option Cell} {p : List Int} {acc : List D} {n : Nat} (hp : p.length ≤ 1000) (hn : acc.length + n ≤ 1000000) :
    lcLoop (tgN 4) [4] tYs (eOp addD (eV 3) (eTup (aCons (eV 4) aNil))) (rangeL 0 n) [a, b, c, some (.val (tI p)), none] acc = .ok (acc ++ (rangeL 0 n).map fun i => .tup (p.map .int ++ [i]), [a, b, c, some (.val (tI p)), none]) := by
  obtain ⟨e, h1, rfl⟩ := lc_map (t := tgN 4) (vs := [4]) (f := eOp addD (eV 3) (eTup (aCons (eV 4) aNil))) (fun e => e = [a, b, c, some (.val (tI p)), none]) (fun i => .tup (p.map .int ++ [i])) (rangeL 0 n) [a, b, c, some (.val (tI p)), none] acc rfl (by rw [rangeL_len]; exact hn) (by
    rintro i env hi rfl
    refine ⟨_, [a, b, c, some (.val (tI p)), some (.val i)], rfl, ?_, rfl⟩
    have hq : (p.map D.int).length + [i].length ≤ 1000000 := by simp; omega
    simp [q_bnd, q_ok, q_er, q_bad, q_some, q_none, q_eC, q_eV, q_eZ, q_eOp, q_eUn, q_aNil, q_aCons, q_eTup, q_eLst, q_eApp, q_toB, q_bOf, q_tNo, q_tAn, q_tOt, q_eIf, q_eAn, q_eOt, q_eNo, q_eFn, q_eFnO, q_frv, q_fro, q_fre, q_foo, q_foe, q_sSet, q_sSetO, q_lok, q_ler, q_sNx, q_sSeq, q_sIf, q_sRet, q_sRetF, q_sDo, q_sRetO, q_sRaise, q_sFor, q_sUnp, q_sAug, q_sApp, q_sSetI, q_isOwn, q_setI, q_eIsi, q_iAny, q_it1, q_it2, q_it3, q_iR1, q_iZp, q_zp, q_eLc, q_eLc2, q_oNone, q_oSome, q_iOf, q_eSl, q_sTry, q_eXf, q_fn, q_lt, q_le, q_gt, q_ge, q_sub, q_add, q_iadd, q_fdiv, q_mod, q_pow, q_imul, q_mul, q_neg, q_is, q_nis, q_eq, q_ne, entry, List.map, List.replicate, q_addT hq])
  exact h1
theorem row_set {a : Option Cell} {s : Int} {L : List (List Int)} (hs : 0 ≤ s ∧ s ≤ 4) (hL : ∀ p ∈ L, p.length ≤ 1000) (hl : (ext L s).length ≤ 100000) :
    sSetO 1 (eLc2 (iAny (eZ 1)) [3, 4] (tgN 3) (tYs) (iR1 (aCons (eV 2) (aNil))) [4] (tgN 4) (tYs) (eOp addD (eV 3) (eTup (aCons (eV 4) (aNil))))) [a, some (.own (lT L)), some (.val (.int s)), none, none] = .nx [a, some (.own (lT (ext L s))), some (.val (.int s)), none, none] := by
  have hr := q_r1 (j := s) hs.1 (by omega)
  obtain ⟨e, h1, rfl⟩ := lc2_map (t := tgN 3) (t1 := tgN 4) (vs := [3, 4]) (vs1 := [4]) (fi1 := iR1 (aCons (eV 2) aNil)) (f := eOp addD (eV 3) (eTup (aCons (eV 4) aNil))) (fun e => e = [a, some (.val (lT L)), some (.val (.int s)), none, none]) (fun d => match d with
    | .tup xs => (rangeL 0 s.toNat).map fun i => .tup (xs ++ [i])
    | _ => []) (L.map tI) [a, some (.val (lT L)), some (.val (.int s)), none, none] [] rfl (by
    rintro d env acc hd rfl
    obtain ⟨p, hp, rfl⟩ := List.mem_map.mp hd
    refine ⟨_, rangeL 0 s.toNat, [a, some (.val (lT L)), some (.val (.int s)), some (.val (tI p)), none], [a, some (.val (lT L)), some (.val (.int s)), some (.val (tI p)), none], rfl, by simp [q_bnd, q_ok, q_er, q_bad, q_some, q_none, q_eC, q_eV, q_eZ, q_eOp, q_eUn, q_aNil, q_aCons, q_eTup, q_eLst, q_eApp, q_toB, q_bOf, q_tNo, q_tAn, q_tOt, q_eIf, q_eAn, q_eOt, q_eNo, q_eFn, q_eFnO, q_frv, q_fro, q_fre, q_foo, q_foe, q_sSet, q_sSetO, q_lok, q_ler, q_sNx, q_sSeq, q_sIf, q_sRet, q_sRetF, q_sDo, q_sRetO, q_sRaise, q_sFor, q_sUnp, q_sAug, q_sApp, q_sSetI, q_isOwn, q_setI, q_eIsi, q_iAny, q_it1, q_it2, q_it3, q_iR1, q_iZp, q_zp, q_eLc, q_eLc2, q_oNone, q_oSome, q_iOf, q_eSl, q_sTry, q_eXf, q_fn, q_lt, q_le, q_gt, q_ge, q_sub, q_add, q_iadd, q_fdiv, q_mod, q_pow, q_imul, q_mul, q_neg, q_is, q_nis, q_eq, q_ne, entry, List.map, List.replicate, tgN, hr], fun hb => ?_, rfl⟩
    exact row_lc (hL p hp) (by simpa [rangeL_len] using hb)) (by rw [← ext_map]; simp; omega)
  rw [← ext_map] at h1
  simp [q_bnd, q_ok, q_er, q_bad, q_some, q_none, q_eC, q_eV, q_eZ, q_eOp, q_eUn, q_aNil, q_aCons, q_eTup, q_eLst, q_eApp, q_toB, q_bOf, q_tNo, q_tAn, q_tOt, q_eIf, q_eAn, q_eOt, q_eNo, q_eFn, q_eFnO, q_frv, q_fro, q_fre, q_foo, q_foe, q_sSet, q_sSetO, q_lok, q_ler, q_sNx, q_sSeq, q_sIf, q_sRet, q_sRetF, q_sDo, q_sRetO, q_sRaise, q_sFor, q_sUnp, q_sAug, q_sApp, q_sSetI, q_isOwn, q_setI, q_eIsi, q_iAny, q_it1, q_it2, q_it3, q_iR1, q_iZp, q_zp, q_eLc, q_eLc2, q_oNone, q_oSome, q_iOf, q_eSl, q_sTry, q_eXf, q_fn, q_lt, q_le, q_gt, q_ge, q_sub, q_add, q_iadd, q_fdiv, q_mod, q_pow, q_imul, q_mul, q_neg, q_is, q_nis, q_eq, q_ne, entry, List.map, List.replicate, wipeE, h1, restE, keepV]
theorem loop_all {a : Option Cell} : ∀ (R : List Int) (L : List (List Int)) (c : Option Cell) (m : Nat), Good R → (∀ p ∈ L, p.length ≤ m) → m + R.length ≤ 1000 → L.length * (pr R).toNat ≤ 1024 →
    ∃ c', loopS (tgN 2) (sSetO 1 (eLc2 (iAny (eZ 1)) [3, 4] (tgN 3) (tYs) (iR1 (aCons (eV 2) (aNil))) [4] (tgN 4) (tYs) (eOp addD (eV 3) (eTup (aCons (eV 4) (aNil)))))) (R.map .int) [a, some (.own (lT L)), c, none, none] = .nx [a, some (.own (lT (R.foldl ext L))), c', none, none]
  | [], L, c, m, _, _, _, _ => ⟨c, by simp [loopS]⟩
  | s :: R, L, c, m, hg, hm, hl, hp => by
    have hR : Good R := fun x hx => hg x (List.mem_cons_of_mem _ hx)
    have hs := hg s List.mem_cons_self
    have h1 := pr_pos hR
    have hlen : (ext L s).length * (pr R).toNat ≤ 1024 := by
      rw [ext_len, Nat.mul_assoc, ← Int.toNat_mul (by omega) (by omega)]
      exact hp
    have hb : (ext L s).length ≤ 1024 := by
      refine Nat.le_trans ?_ hlen
      exact Nat.le_mul_of_pos_right _ (by omega)
    simp only [List.length_cons] at hl
    obtain ⟨c', ih⟩ := loop_all (a := a) R (ext L s) (some (.val (.int s))) (m + 1) hR (ext_bound hm) (by omega) hlen
    refine ⟨c', ?_⟩
    rw [List.map_cons]
    unfold loopS
    have e := row_set (a := a) (s := s) (L := L) ⟨by omega, hs.2⟩ (fun p hp => by have := hm p hp; omega) (by omega)
    simp [tgN, e]
    exact ih
theorem check_product (n : Int) : F_check_product [.int n] = if n ≤ 1024 then .ok (.val .non) else .er 3 [("count", .int n)] := by
  unfold F_check_product
  by_cases h : n ≤ 1024
  · simp [q_bnd, q_ok, q_er, q_bad, q_some, q_none, q_eC, q_eV, q_eZ, q_eOp, q_eUn, q_aNil, q_aCons, q_eTup, q_eLst, q_eApp, q_toB, q_bOf, q_tNo, q_tAn, q_tOt, q_eIf, q_eAn, q_eOt, q_eNo, q_eFn, q_eFnO, q_frv, q_fro, q_fre, q_foo, q_foe, q_sSet, q_sSetO, q_lok, q_ler, q_sNx, q_sSeq, q_sIf, q_sRet, q_sRetF, q_sDo, q_sRetO, q_sRaise, q_sFor, q_sUnp, q_sAug, q_sApp, q_sSetI, q_isOwn, q_setI, q_eIsi, q_iAny, q_it1, q_it2, q_it3, q_iR1, q_iZp, q_zp, q_eLc, q_eLc2, q_oNone, q_oSome, q_iOf, q_eSl, q_sTry, q_eXf, q_fn, q_lt, q_le, q_gt, q_ge, q_sub, q_add, q_iadd, q_fdiv, q_mod, q_pow, q_imul, q_mul, q_neg, q_is, q_nis, q_eq, q_ne, entry, List.map, List.replicate, m_check_product, h]
    rw [if_neg (by omega)]
  · have h' : (1024 < n) := by omega
    simp [q_bnd, q_ok, q_er, q_bad, q_some, q_none, q_eC, q_eV, q_eZ, q_eOp, q_eUn, q_aNil, q_aCons, q_eTup, q_eLst, q_eApp, q_toB, q_bOf, q_tNo, q_tAn, q_tOt, q_eIf, q_eAn, q_eOt, q_eNo, q_eFn, q_eFnO, q_frv, q_fro, q_fre, q_foo, q_foe, q_sSet, q_sSetO, q_lok, q_ler, q_sNx, q_sSeq, q_sIf, q_sRet, q_sRetF, q_sDo, q_sRetO, q_sRaise, q_sFor, q_sUnp, q_sAug, q_sApp, q_sSetI, q_isOwn, q_setI, q_eIsi, q_iAny, q_it1, q_it2, q_it3, q_iR1, q_iZp, q_zp, q_eLc, q_eLc2, q_oNone, q_oSome, q_iOf, q_eSl, q_sTry, q_eXf, q_fn, q_lt, q_le, q_gt, q_ge, q_sub, q_add, q_iadd, q_fdiv, q_mod, q_pow, q_imul, q_mul, q_neg, q_is, q_nis, q_eq, q_ne, entry, List.map, List.replicate, m_check_product, h, h']
theorem all_values {S : List Int} (h : Good S) (hl : S.length ≤ 30) (hp : pr S ≤ 1024) : F_all_values [tI S] = .ok (.own (lT (allV S))) := by
  have e1 := size_product h hl
  have e2 := check_product (pr S)
  rw [if_pos hp] at e2
  obtain ⟨c, e3⟩ := loop_all (a := some (.val (tI S))) S [[]] none 0 h (by simp) (by omega) (by simp; omega)
  unfold F_all_values
  simp only [lT, List.map_cons, List.map_nil] at e3
  rw [show tI [] = D.tup [] from rfl] at e3
  simp [q_bnd, q_ok, q_er, q_bad, q_some, q_none, q_eC, q_eV, q_eZ, q_eOp, q_eUn, q_aNil, q_aCons, q_eTup, q_eLst, q_eApp, q_toB, q_bOf, q_tNo, q_tAn, q_tOt, q_eIf, q_eAn, q_eOt, q_eNo, q_eFn, q_eFnO, q_frv, q_fro, q_fre, q_foo, q_foe, q_sSet, q_sSetO, q_lok, q_ler, q_sNx, q_sSeq, q_sIf, q_sRet, q_sRetF, q_sDo, q_sRetO, q_sRaise, q_sFor, q_sUnp, q_sAug, q_sApp, q_sSetI, q_isOwn, q_setI, q_eIsi, q_iAny, q_it1, q_it2, q_it3, q_iR1, q_iZp, q_zp, q_eLc, q_eLc2, q_oNone, q_oSome, q_iOf, q_eSl, q_sTry, q_eXf, q_fn, q_lt, q_le, q_gt, q_ge, q_sub, q_add, q_iadd, q_fdiv, q_mod, q_pow, q_imul, q_mul, q_neg, q_is, q_nis, q_eq, q_ne, entry, List.map, List.replicate, m_all_values, e1, e2, e3]
  rfl
theorem all_values_wide {S : List Int} (h : Good S) (hl : S.length ≤ 30) (hp : 1024 < pr S) : F_all_values [tI S] = .er 3 [("count", .int (pr S))] := by
  have e1 := size_product h hl
  have e2 := check_product (pr S)
  rw [if_neg (by omega)] at e2
  unfold F_all_values
  simp [q_bnd, q_ok, q_er, q_bad, q_some, q_none, q_eC, q_eV, q_eZ, q_eOp, q_eUn, q_aNil, q_aCons, q_eTup, q_eLst, q_eApp, q_toB, q_bOf, q_tNo, q_tAn, q_tOt, q_eIf, q_eAn, q_eOt, q_eNo, q_eFn, q_eFnO, q_frv, q_fro, q_fre, q_foo, q_foe, q_sSet, q_sSetO, q_lok, q_ler, q_sNx, q_sSeq, q_sIf, q_sRet, q_sRetF, q_sDo, q_sRetO, q_sRaise, q_sFor, q_sUnp, q_sAug, q_sApp, q_sSetI, q_isOwn, q_setI, q_eIsi, q_iAny, q_it1, q_it2, q_it3, q_iR1, q_iZp, q_zp, q_eLc, q_eLc2, q_oNone, q_oSome, q_iOf, q_eSl, q_sTry, q_eXf, q_fn, q_lt, q_le, q_gt, q_ge, q_sub, q_add, q_iadd, q_fdiv, q_mod, q_pow, q_imul, q_mul, q_neg, q_is, q_nis, q_eq, q_ne, entry, List.map, List.replicate, m_all_values, e1, e2]
theorem all_values_bad {d : D} (h : plain d = true) (hb : sizesB d = false) : F_all_values [d] = .er 0 [("value", d)] := by
  have e1 := size_product_bad h hb
  unfold F_all_values
  simp [q_bnd, q_ok, q_er, q_bad, q_some, q_none, q_eC, q_eV, q_eZ, q_eOp, q_eUn, q_aNil, q_aCons, q_eTup, q_eLst, q_eApp, q_toB, q_bOf, q_tNo, q_tAn, q_tOt, q_eIf, q_eAn, q_eOt, q_eNo, q_eFn, q_eFnO, q_frv, q_fro, q_fre, q_foo, q_foe, q_sSet, q_sSetO, q_lok, q_ler, q_sNx, q_sSeq, q_sIf, q_sRet, q_sRetF, q_sDo, q_sRetO, q_sRaise, q_sFor, q_sUnp, q_sAug, q_sApp, q_sSetI, q_isOwn, q_setI, q_eIsi, q_iAny, q_it1, q_it2, q_it3, q_iR1, q_iZp, q_zp, q_eLc, q_eLc2, q_oNone, q_oSome, q_iOf, q_eSl, q_sTry, q_eXf, q_fn, q_lt, q_le, q_gt, q_ge, q_sub, q_add, q_iadd, q_fdiv, q_mod, q_pow, q_imul, q_mul, q_neg, q_is, q_nis, q_eq, q_ne, entry, List.map, List.replicate, m_all_values, e1]
/-! ### worths -/
theorem row_lc2 {a b c d : Option Cell} {p : List Int} {n : Nat} (hp : p.length ≤ 1000) (hn : n ≤ 1000000) :
    lcLoop (tgN 5) [5] tYs (eOp addD (eV 4) (eTup (aCons (eV 5) aNil))) (rangeL 0 n) [a, b, c, d, some (.val (tI p)), none] [] = .ok ((rangeL 0 n).map fun i => .tup (p.map .int ++ [i]), [a, b, c, d, some (.val (tI p)), none]) := by
  obtain ⟨e, h1, rfl⟩ := lc_map (t := tgN 5) (vs := [5]) (f := eOp addD (eV 4) (eTup (aCons (eV 5) aNil))) (fun e => e = [a, b, c, d, some (.val (tI p)), none]) (fun i => .tup (p.map .int ++ [i])) (rangeL 0 n) [a, b, c, d, some (.val (tI p)), none] [] rfl (by rw [rangeL_len]; simpa using hn) (by
    rintro i env hi rfl
    refine ⟨_, [a, b, c, d, some (.val (tI p)), some (.val i)], rfl, ?_, rfl⟩
    have hq : (p.map D.int).length + [i].length ≤ 1000000 := by simp; omega
    simp [q_bnd, q_ok, q_er, q_bad, q_some, q_none, q_eC, q_eV, q_eZ, q_eOp, q_eUn, q_aNil, q_aCons, q_eTup, q_eLst, q_eApp, q_toB, q_bOf, q_tNo, q_tAn, q_tOt, q_eIf, q_eAn, q_eOt, q_eNo, q_eFn, q_eFnO, q_frv, q_fro, q_fre, q_foo, q_foe, q_sSet, q_sSetO, q_lok, q_ler, q_sNx, q_sSeq, q_sIf, q_sRet, q_sRetF, q_sDo, q_sRetO, q_sRaise, q_sFor, q_sUnp, q_sAug, q_sApp, q_sSetI, q_isOwn, q_setI, q_eIsi, q_iAny, q_it1, q_it2, q_it3, q_iR1, q_iZp, q_zp, q_eLc, q_eLc2, q_oNone, q_oSome, q_iOf, q_eSl, q_sTry, q_eXf, q_fn, q_lt, q_le, q_gt, q_ge, q_sub, q_add, q_iadd, q_fdiv, q_mod, q_pow, q_imul, q_mul, q_neg, q_is, q_nis, q_eq, q_ne, entry, List.map, List.replicate, q_addT hq])
  simpa using h1
theorem loop_in {a b : Option Cell} {s : Int} (hs : 0 ≤ s ∧ s ≤ 4) : ∀ (L A : List (List Int)) (c : Option Cell), (∀ p ∈ L, p.length ≤ 1000) → A.length + (ext L s).length ≤ 100000 →
    ∃ c', loopS (tgN 4) (sSet 3 (eOp addD (eV 3) (eLc (iR1 (aCons (eV 2) (aNil))) [5] (tgN 5) (tYs) (eOp addD (eV 4) (eTup (aCons (eV 5) (aNil))))))) (L.map tI) [a, b, some (.val (.int s)), some (.val (lT A)), c, none] = .nx [a, b, some (.val (.int s)), some (.val (lT (A ++ ext L s))), c', none]
  | [], A, c, _, _ => ⟨c, by simp [loopS, ext]⟩
  | p :: L, A, c, hL, hl => by
    have hr := q_r1 (j := s) hs.1 (by omega)
    have hx : ext (p :: L) s = (List.range s.toNat).map (fun (i : Nat) => p ++ [(i : Int)]) ++ ext L s := by simp [ext]
    have hq : (((List.range s.toNat).map (fun (i : Nat) => p ++ [(i : Int)])).map tI) = (rangeL 0 s.toNat).map fun i => D.tup (p.map .int ++ [i]) := by
      rw [rangeL_map]
      simp [Function.comp_def]
    rw [hx, List.length_append] at hl
    simp only [List.length_map, List.length_range] at hl
    obtain ⟨c', ih⟩ := loop_in (a := a) (b := b) hs L (A ++ (List.range s.toNat).map (fun (i : Nat) => p ++ [(i : Int)])) (some (.val (tI p))) (fun q hq => hL q (List.mem_cons_of_mem _ hq)) (by simp; omega)
    refine ⟨c', ?_⟩
    rw [List.map_cons]
    unfold loopS
    have e := row_lc2 (a := a) (b := b) (c := some (.val (.int s))) (d := some (.val (lT A))) (p := p) (n := s.toNat) (hL p List.mem_cons_self) (by omega)
    have hb : (A.map tI).length + ((rangeL 0 s.toNat).map fun i => D.tup (p.map .int ++ [i])).length ≤ 1000000 := by simp [rangeL_len]; omega
    rw [hx, ← List.append_assoc]
    simp only [lT] at ih e
    rw [List.map_append, hq] at ih
    simp [q_bnd, q_ok, q_er, q_bad, q_some, q_none, q_eC, q_eV, q_eZ, q_eOp, q_eUn, q_aNil, q_aCons, q_eTup, q_eLst, q_eApp, q_toB, q_bOf, q_tNo, q_tAn, q_tOt, q_eIf, q_eAn, q_eOt, q_eNo, q_eFn, q_eFnO, q_frv, q_fro, q_fre, q_foo, q_foe, q_sSet, q_sSetO, q_lok, q_ler, q_sNx, q_sSeq, q_sIf, q_sRet, q_sRetF, q_sDo, q_sRetO, q_sRaise, q_sFor, q_sUnp, q_sAug, q_sApp, q_sSetI, q_isOwn, q_setI, q_eIsi, q_iAny, q_it1, q_it2, q_it3, q_iR1, q_iZp, q_zp, q_eLc, q_eLc2, q_oNone, q_oSome, q_iOf, q_eSl, q_sTry, q_eXf, q_fn, q_lt, q_le, q_gt, q_ge, q_sub, q_add, q_iadd, q_fdiv, q_mod, q_pow, q_imul, q_mul, q_neg, q_is, q_nis, q_eq, q_ne, entry, List.map, List.replicate, lT, tgN, hr, wipeE, e, restE, keepV, q_addL hb]
    simpa using ih
theorem loop_out {a : Option Cell} : ∀ (R : List Int) (L : List (List Int)) (c d e : Option Cell) (m : Nat), Good R → (∀ p ∈ L, p.length ≤ m) → m + R.length ≤ 1000 → L.length * (pr R).toNat ≤ 1024 →
    ∃ c' d' e', loopS (tgN 2) (sSeq (sSet 3 (eLst (aNil)))
    (sSeq (sFor (iAny (eV 1)) (tgN 4) (sSet 3 (eOp addD (eV 3) (eLc (iR1 (aCons (eV 2) (aNil))) [5] (tgN 5) (tYs) (eOp addD (eV 4) (eTup (aCons (eV 5) (aNil))))))))
    (sSet 1 (eV 3)))) (R.map .int) [a, some (.val (lT L)), c, d, e, none] = .nx [a, some (.val (lT (R.foldl ext L))), c', d', e', none]
  | [], L, c, d, e, m, _, _, _, _ => ⟨c, d, e, by simp [loopS]⟩
  | s :: R, L, c, d, e, m, hg, hm, hl, hp => by
    have hR : Good R := fun x hx => hg x (List.mem_cons_of_mem _ hx)
    have hs := hg s List.mem_cons_self
    have h1 := pr_pos hR
    have hlen : (ext L s).length * (pr R).toNat ≤ 1024 := by
      rw [ext_len, Nat.mul_assoc, ← Int.toNat_mul (by omega) (by omega)]
      exact hp
    have hb : (ext L s).length ≤ 1024 := Nat.le_trans (Nat.le_mul_of_pos_right _ (by omega)) hlen
    simp only [List.length_cons] at hl
    obtain ⟨z, e1⟩ := loop_in (a := a) (b := some (.val (lT L))) (s := s) ⟨by omega, hs.2⟩ L [] e (fun p hp => by have := hm p hp; omega) (by simp; omega)
    obtain ⟨c', d', e', ih⟩ := loop_out (a := a) R (ext L s) (some (.val (.int s))) (some (.val (lT (ext L s)))) z (m + 1) hR (ext_bound hm) (by omega) hlen
    refine ⟨c', d', e', ?_⟩
    rw [List.map_cons]
    unfold loopS
    simp only [lT, List.map_nil, List.nil_append] at e1
    simp only [lT] at ih
    simp [q_bnd, q_ok, q_er, q_bad, q_some, q_none, q_eC, q_eV, q_eZ, q_eOp, q_eUn, q_aNil, q_aCons, q_eTup, q_eLst, q_eApp, q_toB, q_bOf, q_tNo, q_tAn, q_tOt, q_eIf, q_eAn, q_eOt, q_eNo, q_eFn, q_eFnO, q_frv, q_fro, q_fre, q_foo, q_foe, q_sSet, q_sSetO, q_lok, q_ler, q_sNx, q_sSeq, q_sIf, q_sRet, q_sRetF, q_sDo, q_sRetO, q_sRaise, q_sFor, q_sUnp, q_sAug, q_sApp, q_sSetI, q_isOwn, q_setI, q_eIsi, q_iAny, q_it1, q_it2, q_it3, q_iR1, q_iZp, q_zp, q_eLc, q_eLc2, q_oNone, q_oSome, q_iOf, q_eSl, q_sTry, q_eXf, q_fn, q_lt, q_le, q_gt, q_ge, q_sub, q_add, q_iadd, q_fdiv, q_mod, q_pow, q_imul, q_mul, q_neg, q_is, q_nis, q_eq, q_ne, entry, List.map, List.replicate, lT, tgN, e1]
    simpa using ih
theorem worths {S : List Int} (h : Good S) (hl : S.length ≤ 30) (hp : pr S ≤ 1024) : F__law_worths [tI S] = .ok (.val (lT (allV S))) := by
  have h1 := pr_pos h
  obtain ⟨c, d, e, e3⟩ := loop_out (a := some (.val (tI S))) S [[]] none none none 0 h (by simp) (by omega) (by simp; omega)
  unfold F__law_worths
  simp only [lT, List.map_cons, List.map_nil] at e3
  rw [show tI [] = D.tup [] from rfl] at e3
  simp [q_bnd, q_ok, q_er, q_bad, q_some, q_none, q_eC, q_eV, q_eZ, q_eOp, q_eUn, q_aNil, q_aCons, q_eTup, q_eLst, q_eApp, q_toB, q_bOf, q_tNo, q_tAn, q_tOt, q_eIf, q_eAn, q_eOt, q_eNo, q_eFn, q_eFnO, q_frv, q_fro, q_fre, q_foo, q_foe, q_sSet, q_sSetO, q_lok, q_ler, q_sNx, q_sSeq, q_sIf, q_sRet, q_sRetF, q_sDo, q_sRetO, q_sRaise, q_sFor, q_sUnp, q_sAug, q_sApp, q_sSetI, q_isOwn, q_setI, q_eIsi, q_iAny, q_it1, q_it2, q_it3, q_iR1, q_iZp, q_zp, q_eLc, q_eLc2, q_oNone, q_oSome, q_iOf, q_eSl, q_sTry, q_eXf, q_fn, q_lt, q_le, q_gt, q_ge, q_sub, q_add, q_iadd, q_fdiv, q_mod, q_pow, q_imul, q_mul, q_neg, q_is, q_nis, q_eq, q_ne, entry, List.map, List.replicate, m__law_worths, e3]
  rfl
/-! ### the numbers of values -/
theorem fold_ext : ∀ (S : List Int) (L : List (List Int)), S.foldl ext L = L.flatMap fun p => (allV S).map (p ++ ·)
  | [], L => by simp [allV]
  | s :: S, L => by
    unfold allV
    rw [List.foldl_cons, List.foldl_cons, fold_ext S, fold_ext S (ext [[]] s)]
    unfold ext
    simp [List.flatMap_assoc, List.map_flatMap, List.flatMap_map, Function.comp_def]
theorem allV_cons (s : Int) (S : List Int) : allV (s :: S) = (List.range s.toNat).flatMap fun (i : Nat) => (allV S).map ((i : Int) :: ·) := by
  unfold allV
  rw [List.foldl_cons, fold_ext]
  unfold ext
  simp [List.flatMap_map, allV]
  rfl
theorem allV_len : ∀ {S : List Int}, Good S → ((allV S).length : Int) = pr S
  | [], _ => by simp [allV, pr]
  | s :: S, h => by
    have hs := h s List.mem_cons_self
    have ih := allV_len (S := S) fun x hx => h x (List.mem_cons_of_mem _ hx)
    have key : ∀ n : Nat, ((List.range n).flatMap fun (i : Nat) => (allV S).map ((i : Int) :: ·)).length = n * (allV S).length := by
      intro n
      induction n with
      | zero => simp
      | succ n ihn =>
        rw [List.range_succ, List.flatMap_append, List.length_append, ihn]
        simp [Nat.add_mul]
    rw [allV_cons, key, Int.natCast_mul, ih, pr]
    congr 1
    omega
theorem flat_get {α : Type} {f : Nat → List α} {P : Nat} (hf : ∀ i, (f i).length = P) {i j : Nat} (hj : j < P) : ∀ m : Nat, i < m → ((List.range m).flatMap f)[i * P + j]? = (f i)[j]?
  | 0, h => absurd h (Nat.not_lt_zero _)
  | m + 1, h => by
    have hlen : ∀ m : Nat, ((List.range m).flatMap f).length = m * P := by
      intro n
      induction n with
      | zero => simp
      | succ n ihn =>
        rw [List.range_succ, List.flatMap_append, List.length_append, ihn]
        simp [Nat.add_mul, hf]
    rw [List.range_succ, List.flatMap_append]
    by_cases hi : i < m
    · rw [List.getElem?_append_left]
      · exact flat_get hf hj m hi
      · rw [hlen]
        have : (i + 1) * P ≤ m * P := Nat.mul_le_mul_right P hi
        rw [Nat.add_mul] at this
        omega
    · have e : i = m := by omega
      subst e
      rw [List.getElem?_append_right (by rw [hlen]; omega), hlen]
      simp
theorem allV_get : ∀ {S : List Int} {n : Int}, Good S → 0 ≤ n → n < pr S → (allV S)[n.toNat]? = some (vat S n)
  | [], n, _, h0, h1 => by
    have : n = 0 := by simp [pr] at h1; omega
    subst this
    simp [allV, vat]
  | s :: S, n, h, h0, h1 => by
    have hS : Good S := fun x hx => h x (List.mem_cons_of_mem _ hx)
    have hs := h s List.mem_cons_self
    have hp := pr_pos hS
    have hl := allV_len hS
    rw [pr] at h1
    have hq0 : 0 ≤ n / pr S := Int.ediv_nonneg h0 (by omega)
    have hq1 : n / pr S < s := Int.ediv_lt_of_lt_mul (by omega) h1
    have hr0 : 0 ≤ n % pr S := Int.emod_nonneg _ (by omega)
    have hr1 : n % pr S < pr S := Int.emod_lt_of_pos _ (by omega)
    have e : n.toNat = (n / pr S).toNat * (allV S).length + (n % pr S).toNat := by
      have z := Int.emod_add_mul_ediv n (pr S)
      have z2 : (((n / pr S).toNat * (allV S).length + (n % pr S).toNat : Nat) : Int) = n := by
        rw [Int.natCast_add, Int.natCast_mul, hl, Int.toNat_of_nonneg hq0, Int.toNat_of_nonneg hr0, Int.mul_comm]
        omega
      omega
    rw [allV_cons, e, flat_get (P := (allV S).length) (by simp) (by omega) _ (by omega), List.getElem?_map, allV_get hS hr0 hr1]
    simp [vat, Int.toNat_of_nonneg hq0]
theorem vat_len : ∀ (S : List Int) (n : Int), (vat S n).length = S.length
  | [], _ => rfl
  | s :: S, n => by rw [vat, List.length_cons, List.length_cons, vat_len S]
theorem vat_ok : ∀ {S : List Int} {n : Int}, Good S → 0 ≤ n → n < pr S → (zipL ((vat S n).map .int) (S.map .int)).all pairB = true
  | [], n, _, _, _ => by simp [vat, zipL]
  | s :: S, n, h, h0, h1 => by
    have hS : Good S := fun x hx => h x (List.mem_cons_of_mem _ hx)
    have hs := h s List.mem_cons_self
    have hp := pr_pos hS
    rw [pr] at h1
    have hq0 : 0 ≤ n / pr S := Int.ediv_nonneg h0 (by omega)
    have hq1 : n / pr S < s := Int.ediv_lt_of_lt_mul (by omega) h1
    have ih := vat_ok hS (Int.emod_nonneg n (by omega)) (Int.emod_lt_of_pos n (by omega))
    rw [vat, List.map_cons, List.map_cons, zipL, List.all_cons, ih]
    simp [pairB, itemB, intB, hq0, hq1]
theorem vat_values {S : List Int} {n : Int} (h : Good S) (h0 : 0 ≤ n) (h1 : n < pr S) : valuesB S (tI (vat S n)) = true := by
  simp only [valuesB, List.length_map, vat_len, decide_true, Bool.true_and]
  exact vat_ok h h0 h1
theorem idx_vat : ∀ {S : List Int} {n r : Int}, Good S → 0 ≤ n → n < pr S → idx S (vat S n) r = r * pr S + n
  | [], n, r, _, h0, h1 => by
    have : n = 0 := by simp [pr] at h1; omega
    subst this
    simp [idx, pr]
  | s :: S, n, r, h, h0, h1 => by
    have hS : Good S := fun x hx => h x (List.mem_cons_of_mem _ hx)
    have hp := pr_pos hS
    rw [vat, idx, idx_vat hS (Int.emod_nonneg n (by omega)) (Int.emod_lt_of_pos n (by omega)), pr]
    have z := Int.emod_add_mul_ediv n (pr S)
    rw [Int.add_mul, Int.mul_assoc, Int.mul_comm (n / pr S)]
    omega
/-! ### told -/
theorem eqS : eqB (.str "told") (.str "told") = some true := eqB_refl (eqOk_str (strOk_of _))
def callee (w : Int) (a b : D) : FR := if w = 0 then F_size_product [a] else if w = 1 then F_index_of [a, b] else if w = 2 then F_values_at [a, b] else F_all_values [a]
def way (w : Int) : Prop := w = 0 ∨ w = 1 ∨ w = 2 ∨ w = 3
theorem told_val {w : Int} {a b d : D} (hw : way w) (h : callee w a b = .ok (.val d)) : F__law_told [.int w, a, b] = .ok (.val (.lst [.str "told", d])) := by
  unfold F__law_told
  rcases hw with rfl | rfl | rfl | rfl <;> simp [callee] at h <;> simp [q_bnd, q_ok, q_er, q_bad, q_some, q_none, q_eC, q_eV, q_eZ, q_eOp, q_eUn, q_aNil, q_aCons, q_eTup, q_eLst, q_eApp, q_toB, q_bOf, q_tNo, q_tAn, q_tOt, q_eIf, q_eAn, q_eOt, q_eNo, q_eFn, q_eFnO, q_frv, q_fro, q_fre, q_foo, q_foe, q_sSet, q_sSetO, q_lok, q_ler, q_sNx, q_sSeq, q_sIf, q_sRet, q_sRetF, q_sDo, q_sRetO, q_sRaise, q_sFor, q_sUnp, q_sAug, q_sApp, q_sSetI, q_isOwn, q_setI, q_eIsi, q_iAny, q_it1, q_it2, q_it3, q_iR1, q_iZp, q_zp, q_eLc, q_eLc2, q_oNone, q_oSome, q_iOf, q_eSl, q_sTry, q_eXf, q_fn, q_lt, q_le, q_gt, q_ge, q_sub, q_add, q_iadd, q_fdiv, q_mod, q_pow, q_imul, q_mul, q_neg, q_is, q_nis, q_eq, q_ne, entry, List.map, List.replicate, m__law_told, eqI, h]
theorem told_own {w : Int} {a b d : D} (hw : way w) (h : callee w a b = .ok (.own d)) : F__law_told [.int w, a, b] = .ok (.val (.lst [.str "told", d])) := by
  unfold F__law_told
  rcases hw with rfl | rfl | rfl | rfl <;> simp [callee] at h <;> simp [q_bnd, q_ok, q_er, q_bad, q_some, q_none, q_eC, q_eV, q_eZ, q_eOp, q_eUn, q_aNil, q_aCons, q_eTup, q_eLst, q_eApp, q_toB, q_bOf, q_tNo, q_tAn, q_tOt, q_eIf, q_eAn, q_eOt, q_eNo, q_eFn, q_eFnO, q_frv, q_fro, q_fre, q_foo, q_foe, q_sSet, q_sSetO, q_lok, q_ler, q_sNx, q_sSeq, q_sIf, q_sRet, q_sRetF, q_sDo, q_sRetO, q_sRaise, q_sFor, q_sUnp, q_sAug, q_sApp, q_sSetI, q_isOwn, q_setI, q_eIsi, q_iAny, q_it1, q_it2, q_it3, q_iR1, q_iZp, q_zp, q_eLc, q_eLc2, q_oNone, q_oSome, q_iOf, q_eSl, q_sTry, q_eXf, q_fn, q_lt, q_le, q_gt, q_ge, q_sub, q_add, q_iadd, q_fdiv, q_mod, q_pow, q_imul, q_mul, q_neg, q_is, q_nis, q_eq, q_ne, entry, List.map, List.replicate, m__law_told, eqI, h]
def tag : Nat → Str
  | 0 => "sizes"
  | 1 => "worths"
  | _ => "number"
theorem told_er {w : Int} {c : Nat} {a b d r : D} (hw : way w) (hc : c < 3) (h : callee w a b = .er c [("value", d)]) (hr : reprD d = some r) : F__law_told [.int w, a, b] = .ok (.val (.lst [.str (tag c), r])) := by
  have hl : List.lookup ("value" : Str) [(("value" : Str), d)] = some d := by simp [List.lookup]
  unfold F__law_told
  have hc' : c = 0 ∨ c = 1 ∨ c = 2 := by omega
  rcases hw with rfl | rfl | rfl | rfl <;> simp [callee] at h <;> rcases hc' with rfl | rfl | rfl <;> simp [q_bnd, q_ok, q_er, q_bad, q_some, q_none, q_eC, q_eV, q_eZ, q_eOp, q_eUn, q_aNil, q_aCons, q_eTup, q_eLst, q_eApp, q_toB, q_bOf, q_tNo, q_tAn, q_tOt, q_eIf, q_eAn, q_eOt, q_eNo, q_eFn, q_eFnO, q_frv, q_fro, q_fre, q_foo, q_foe, q_sSet, q_sSetO, q_lok, q_ler, q_sNx, q_sSeq, q_sIf, q_sRet, q_sRetF, q_sDo, q_sRetO, q_sRaise, q_sFor, q_sUnp, q_sAug, q_sApp, q_sSetI, q_isOwn, q_setI, q_eIsi, q_iAny, q_it1, q_it2, q_it3, q_iR1, q_iZp, q_zp, q_eLc, q_eLc2, q_oNone, q_oSome, q_iOf, q_eSl, q_sTry, q_eXf, q_fn, q_lt, q_le, q_gt, q_ge, q_sub, q_add, q_iadd, q_fdiv, q_mod, q_pow, q_imul, q_mul, q_neg, q_is, q_nis, q_eq, q_ne, entry, List.map, List.replicate, m__law_told, eqI, h, nE, runH, isa, clrN, reprL, hr, hl, tag]
theorem told_wide {a b : D} {n : Int} (h : F_all_values [a] = .er 3 [("count", .int n)]) : F__law_told [.int 3, a, b] = .ok (.val (.lst [.str "wide", .int n])) := by
  have hl : List.lookup ("count" : Str) [(("count" : Str), D.int n)] = some (.int n) := by simp [List.lookup]
  unfold F__law_told
  simp [q_bnd, q_ok, q_er, q_bad, q_some, q_none, q_eC, q_eV, q_eZ, q_eOp, q_eUn, q_aNil, q_aCons, q_eTup, q_eLst, q_eApp, q_toB, q_bOf, q_tNo, q_tAn, q_tOt, q_eIf, q_eAn, q_eOt, q_eNo, q_eFn, q_eFnO, q_frv, q_fro, q_fre, q_foo, q_foe, q_sSet, q_sSetO, q_lok, q_ler, q_sNx, q_sSeq, q_sIf, q_sRet, q_sRetF, q_sDo, q_sRetO, q_sRaise, q_sFor, q_sUnp, q_sAug, q_sApp, q_sSetI, q_isOwn, q_setI, q_eIsi, q_iAny, q_it1, q_it2, q_it3, q_iR1, q_iZp, q_zp, q_eLc, q_eLc2, q_oNone, q_oSome, q_iOf, q_eSl, q_sTry, q_eXf, q_fn, q_lt, q_le, q_gt, q_ge, q_sub, q_add, q_iadd, q_fdiv, q_mod, q_pow, q_imul, q_mul, q_neg, q_is, q_nis, q_eq, q_ne, entry, List.map, List.replicate, m__law_told, eqI, h, nE, runH, isa, clrN, hl]
/-! ### the pool -/
structure PoolOk (d : D) : Prop where
  ex : ∃ a b : Int, d = .lst [.int a, .int b] ∧ 0 ≤ a ∧ 0 ≤ b ∧ b < 2147483647
theorem bor0 {a b : Int} {e : DEnv} : eBor (eOp idxD (eV 0) (eC (.int 0))) (some (.own (.lst [.int a, .int b])) :: e) = .ok (.int a, some (.own (.lst [.int a, .int b])) :: e) := rfl
theorem bor1 {a b : Int} {e : DEnv} : eBor (eOp idxD (eV 0) (eC (.int 1))) (some (.own (.lst [.int a, .int b])) :: e) = .ok (.int b, some (.own (.lst [.int a, .int b])) :: e) := rfl
theorem take_ok {d : D} {n : Int} (h : PoolOk d) (h0 : 0 < n) (h1 : n < 1000000) : ∃ r d', F__law_take d [.int n] = .ok (.int r) d' ∧ 0 ≤ r ∧ r < n ∧ PoolOk d' := by
  obtain ⟨a, b, rfl, ha, hb, hb2⟩ := h.ex
  have hlog : n.natAbs.log2 < 9000 := by
    rw [Nat.log2_lt (by omega)]
    have : n.natAbs < 1000000 := by omega
    exact Nat.lt_trans this (by decide +kernel)
  have c1 : 0 < n ∧ n.natAbs.log2 < 9000 := ⟨h0, hlog⟩
  by_cases hz : 0 < a
  · refine ⟨a % n, .lst [.int (a / n), .int b], ?_, Int.emod_nonneg _ (by omega), Int.emod_lt_of_pos _ h0, ⟨_, _, rfl, Int.ediv_nonneg ha (by omega), hb, hb2⟩⟩
    unfold F__law_take
    simp [q_bnd, q_ok, q_er, q_bad, q_some, q_none, q_eC, q_eV, q_eZ, q_eOp, q_eUn, q_aNil, q_aCons, q_eTup, q_eLst, q_eApp, q_toB, q_bOf, q_tNo, q_tAn, q_tOt, q_eIf, q_eAn, q_eOt, q_eNo, q_eFn, q_eFnO, q_frv, q_fro, q_fre, q_foo, q_foe, q_sSet, q_sSetO, q_lok, q_ler, q_sNx, q_sSeq, q_sIf, q_sRet, q_sRetF, q_sDo, q_sRetO, q_sRaise, q_sFor, q_sUnp, q_sAug, q_sApp, q_sSetI, q_isOwn, q_setI, q_eIsi, q_iAny, q_it1, q_it2, q_it3, q_iR1, q_iZp, q_zp, q_eLc, q_eLc2, q_oNone, q_oSome, q_iOf, q_eSl, q_sTry, q_eXf, q_fn, q_lt, q_le, q_gt, q_ge, q_sub, q_add, q_iadd, q_fdiv, q_mod, q_pow, q_imul, q_mul, q_neg, q_is, q_nis, q_eq, q_ne, entry, List.map, List.replicate, fnSemT, entryT, m__law_take, bor0, bor1, hz, c1, h0]
  · have hm : ¬ (0 < a) := hz
    have q0 : 0 ≤ (b * 48271 + 12345) % 2147483647 := Int.emod_nonneg _ (by decide)
    have q1 : (b * 48271 + 12345) % 2147483647 < 2147483647 := Int.emod_lt_of_pos _ (by decide)
    refine ⟨(b * 48271 + 12345) % 2147483647 * ((b * 48271 + 12345) % 2147483647) % 2147483629 / 64 % n, .lst [.int a, .int ((b * 48271 + 12345) % 2147483647)], ?_, Int.emod_nonneg _ (by omega), Int.emod_lt_of_pos _ h0, ⟨_, _, rfl, ha, q0, q1⟩⟩
    have c3 : ((b * 48271 + 12345) % 2147483647).natAbs < 18446744073709551616 := by omega
    have c4 : Nat.log2 64 < 9000 := by decide +kernel
    unfold F__law_take
    simp [q_bnd, q_ok, q_er, q_bad, q_some, q_none, q_eC, q_eV, q_eZ, q_eOp, q_eUn, q_aNil, q_aCons, q_eTup, q_eLst, q_eApp, q_toB, q_bOf, q_tNo, q_tAn, q_tOt, q_eIf, q_eAn, q_eOt, q_eNo, q_eFn, q_eFnO, q_frv, q_fro, q_fre, q_foo, q_foe, q_sSet, q_sSetO, q_lok, q_ler, q_sNx, q_sSeq, q_sIf, q_sRet, q_sRetF, q_sDo, q_sRetO, q_sRaise, q_sFor, q_sUnp, q_sAug, q_sApp, q_sSetI, q_isOwn, q_setI, q_eIsi, q_iAny, q_it1, q_it2, q_it3, q_iR1, q_iZp, q_zp, q_eLc, q_eLc2, q_oNone, q_oSome, q_iOf, q_eSl, q_sTry, q_eXf, q_fn, q_lt, q_le, q_gt, q_ge, q_sub, q_add, q_iadd, q_fdiv, q_mod, q_pow, q_imul, q_mul, q_neg, q_is, q_nis, q_eq, q_ne, entry, List.map, List.replicate, fnSemT, entryT, m__law_take, bor0, bor1, hm, c3, h0, c4]
end K01
end

section
set_option Elab.async false
set_option linter.all false
set_option maxRecDepth 100000
set_option maxHeartbeats 2000000
namespace K01
open PySem L2 PyProof.Rows PySem.Spec DL
/-! ### what == may meet -/
structure Eo (k : Nat) (d : D) : Prop where
  ex : ∃ a, toPy d = some a ∧ a.canLay0 = true ∧ a.depth ≤ k
theorem Eo.ok {k : Nat} {d : D} (h : Eo k d) (hk : k ≤ 64) : eqB d d = some true := by
  obtain ⟨a, e, h1, h2⟩ := h.ex
  refine eqB_refl ?_
  unfold eqOk
  rw [e]
  simp only [SeqAt.shaped, h1, Bool.true_and, decide_eq_true_eq]
  omega
theorem eo_int (i : Int) (k : Nat) : Eo k (.int i) := ⟨.int i, by simp [toPy], by simp [PyData.canLay0], by simp [PyData.depth]⟩
theorem eo_str {s : Str} (h : PyData.strOk s = true) (k : Nat) : Eo k (.str s) := ⟨.str s, by simp [toPy], by simp [PyData.canLay0, h], by simp [PyData.depth]⟩
theorem lay_all {k : Nat} : ∀ {xs : List PyData}, (∀ x ∈ xs, x.canLay0 = true ∧ x.depth ≤ k) → PyData.canLayAll0 xs = true ∧ PyData.depthAll xs ≤ k
  | [], _ => ⟨by simp [PyData.canLayAll0], by simp [PyData.depthAll]⟩
  | x :: xs, h => by
    have h1 := h x List.mem_cons_self
    have h2 := lay_all fun y hy => h y (List.mem_cons_of_mem _ hy)
    refine ⟨by simp [PyData.canLayAll0, h1.1, h2.1], ?_⟩
    rw [PyData.depthAll]
    exact Nat.max_le.mpr ⟨h1.2, h2.2⟩
theorem eo_tup {k : Nat} {ds : List D} (h : ∀ d ∈ ds, Eo k d) : Eo (k + 1) (.tup ds) := by
  obtain ⟨as, e, p, l⟩ := toPyL_of (P := fun a => a.canLay0 = true ∧ a.depth ≤ k) fun d hd => (h d hd).ex
  have q := lay_all p
  exact ⟨.tuple as, by simp [toPy, e], by simp only [PyData.canLay0, q.1], by rw [PyData.depth]; have := q.2; omega⟩
theorem eo_lst {k : Nat} {ds : List D} (h : ∀ d ∈ ds, Eo k d) : Eo (k + 1) (.lst ds) := by
  obtain ⟨as, e, p, l⟩ := toPyL_of (P := fun a => a.canLay0 = true ∧ a.depth ≤ k) fun d hd => (h d hd).ex
  have q := lay_all p
  exact ⟨.list as, by simp [toPy, e], by simp only [PyData.canLay0, q.1], by rw [PyData.depth]; have := q.2; omega⟩
theorem eo_tI (V : List Int) (k : Nat) : Eo (k + 1) (tI V) := eo_tup (by
  intro d hd
  obtain ⟨v, _, rfl⟩ := List.mem_map.mp hd
  exact eo_int v k)
theorem eo_pair {k : Nat} {s : Str} {d : D} (hs : PyData.strOk s = true) (h : Eo k d) : Eo (k + 1) (.lst [.str s, d]) := eo_lst (by
  intro x hx
  rcases List.mem_cons.mp hx with rfl | hx
  · exact eo_str hs k
  · rcases List.mem_cons.mp hx with rfl | hx
    · exact h
    · cases hx)
theorem eo_lT (L : List (List Int)) (k : Nat) : Eo (k + 2) (lT L) := eo_lst (by
  intro d hd
  obtain ⟨v, _, rfl⟩ := List.mem_map.mp hd
  exact eo_tI v k)
theorem at_nn {α : Type} {xs : List α} {i : Int} (h0 : 0 ≤ i) (h1 : i < xs.length) : atI xs i = xs[i.toNat]? := by
  unfold atI ixN
  rw [if_pos h0, if_pos (by omega)]
  rfl
/-! ### the pool of a script -/
theorem pool_ok {ns : List Int} {k : Int} (h0 : 0 ≤ k) (h1 : k < 1000) : ∃ d, F__law_pool [scrOf ns, .int k] = .ok (.own d) ∧ PoolOk d := by
  have hk : k.natAbs < 18446744073709551616 := by omega
  have hn : lenD [scrOf ns] = some (.int ns.length) := by simp [scrOf, lenD]
  have num : ∀ c : Int, ∃ m : Int, (c % 2147483629 + 7919 * k * k + 31 * k + 17) * 48271 % 2147483647 = m ∧ m.natAbs < 18446744073709551616 ∧ 0 ≤ m * m % 2147483629 ∧ m * m % 2147483629 < 2147483647 := by
    intro c
    refine ⟨_, rfl, ?_, ?_, ?_⟩
    · have q0 : 0 ≤ (c % 2147483629 + 7919 * k * k + 31 * k + 17) * 48271 % 2147483647 := Int.emod_nonneg _ (by decide)
      have q1 : (c % 2147483629 + 7919 * k * k + 31 * k + 17) * 48271 % 2147483647 < 2147483647 := Int.emod_lt_of_pos _ (by decide)
      omega
    · exact Int.emod_nonneg _ (by decide)
    · exact Int.lt_trans (Int.emod_lt_of_pos _ (by decide)) (by decide)
  unfold F__law_pool
  by_cases hl : k < ns.length
  · obtain ⟨z, hz⟩ : ∃ z, ns[k.toNat]? = some z := ⟨_, List.getElem?_eq_getElem (by omega)⟩
    have e1 : idxD (scrOf ns) (.int k) = some (.int z) := by
      show atI (ns.map D.int) k = _
      rw [at_nn h0 (by simpa using hl), List.getElem?_map, hz]
      rfl
    obtain ⟨c, hc, hc0⟩ : ∃ c, (if z < 0 then -z else z) = c ∧ 0 ≤ c := ⟨_, rfl, by split <;> omega⟩
    obtain ⟨m, hm, g1, g2, g3⟩ := num c
    by_cases hb : 1000000000000000000 ≤ c
    · exact ⟨.lst [.int c, .int (m * m % 2147483629)], by simp [q_bnd, q_ok, q_er, q_bad, q_some, q_none, q_eC, q_eV, q_eZ, q_eOp, q_eUn, q_aNil, q_aCons, q_eTup, q_eLst, q_eApp, q_toB, q_bOf, q_tNo, q_tAn, q_tOt, q_eIf, q_eAn, q_eOt, q_eNo, q_eFn, q_eFnO, q_frv, q_fro, q_fre, q_foo, q_foe, q_sSet, q_sSetO, q_lok, q_ler, q_sNx, q_sSeq, q_sIf, q_sRet, q_sRetF, q_sDo, q_sRetO, q_sRaise, q_sFor, q_sUnp, q_sAug, q_sApp, q_sSetI, q_isOwn, q_setI, q_eIsi, q_iAny, q_it1, q_it2, q_it3, q_iR1, q_iZp, q_zp, q_eLc, q_eLc2, q_oNone, q_oSome, q_iOf, q_eSl, q_sTry, q_eXf, q_fn, q_lt, q_le, q_gt, q_ge, q_sub, q_add, q_iadd, q_fdiv, q_mod, q_pow, q_imul, q_mul, q_neg, q_is, q_nis, q_eq, q_ne, entry, List.map, List.replicate, m__law_pool, hn, hl, e1, absD, hc, hk, toIntD, hb, hm, g1], ⟨_, _, rfl, hc0, g2, g3⟩⟩
    · exact ⟨.lst [.int 0, .int (m * m % 2147483629)], by simp [q_bnd, q_ok, q_er, q_bad, q_some, q_none, q_eC, q_eV, q_eZ, q_eOp, q_eUn, q_aNil, q_aCons, q_eTup, q_eLst, q_eApp, q_toB, q_bOf, q_tNo, q_tAn, q_tOt, q_eIf, q_eAn, q_eOt, q_eNo, q_eFn, q_eFnO, q_frv, q_fro, q_fre, q_foo, q_foe, q_sSet, q_sSetO, q_lok, q_ler, q_sNx, q_sSeq, q_sIf, q_sRet, q_sRetF, q_sDo, q_sRetO, q_sRaise, q_sFor, q_sUnp, q_sAug, q_sApp, q_sSetI, q_isOwn, q_setI, q_eIsi, q_iAny, q_it1, q_it2, q_it3, q_iR1, q_iZp, q_zp, q_eLc, q_eLc2, q_oNone, q_oSome, q_iOf, q_eSl, q_sTry, q_eXf, q_fn, q_lt, q_le, q_gt, q_ge, q_sub, q_add, q_iadd, q_fdiv, q_mod, q_pow, q_imul, q_mul, q_neg, q_is, q_nis, q_eq, q_ne, entry, List.map, List.replicate, m__law_pool, hn, hl, e1, absD, hc, hk, toIntD, hb, hm, g1], ⟨_, _, rfl, by omega, g2, g3⟩⟩
  · obtain ⟨m, hm, g1, g2, g3⟩ := num 0
    simp only [Int.zero_emod] at hm
    exact ⟨.lst [.int 0, .int (m * m % 2147483629)], by simp [q_bnd, q_ok, q_er, q_bad, q_some, q_none, q_eC, q_eV, q_eZ, q_eOp, q_eUn, q_aNil, q_aCons, q_eTup, q_eLst, q_eApp, q_toB, q_bOf, q_tNo, q_tAn, q_tOt, q_eIf, q_eAn, q_eOt, q_eNo, q_eFn, q_eFnO, q_frv, q_fro, q_fre, q_foo, q_foe, q_sSet, q_sSetO, q_lok, q_ler, q_sNx, q_sSeq, q_sIf, q_sRet, q_sRetF, q_sDo, q_sRetO, q_sRaise, q_sFor, q_sUnp, q_sAug, q_sApp, q_sSetI, q_isOwn, q_setI, q_eIsi, q_iAny, q_it1, q_it2, q_it3, q_iR1, q_iZp, q_zp, q_eLc, q_eLc2, q_oNone, q_oSome, q_iOf, q_eSl, q_sTry, q_eXf, q_fn, q_lt, q_le, q_gt, q_ge, q_sub, q_add, q_iadd, q_fdiv, q_mod, q_pow, q_imul, q_mul, q_neg, q_is, q_nis, q_eq, q_ne, entry, List.map, List.replicate, m__law_pool, hn, hl, hk, toIntD]; simp at hm; simp [hm, g1, q_bnd, q_ok, q_er, q_bad, q_some, q_none, q_eC, q_eV, q_eZ, q_eOp, q_eUn, q_aNil, q_aCons, q_eTup, q_eLst, q_eApp, q_toB, q_bOf, q_tNo, q_tAn, q_tOt, q_eIf, q_eAn, q_eOt, q_eNo, q_eFn, q_eFnO, q_frv, q_fro, q_fre, q_foo, q_foe, q_sSet, q_sSetO, q_lok, q_ler, q_sNx, q_sSeq, q_sIf, q_sRet, q_sRetF, q_sDo, q_sRetO, q_sRaise, q_sFor, q_sUnp, q_sAug, q_sApp, q_sSetI, q_isOwn, q_setI, q_eIsi, q_iAny, q_it1, q_it2, q_it3, q_iR1, q_iZp, q_zp, q_eLc, q_eLc2, q_oNone, q_oSome, q_iOf, q_eSl, q_sTry, q_eXf, q_fn, q_lt, q_le, q_gt, q_ge, q_sub, q_add, q_iadd, q_fdiv, q_mod, q_pow, q_imul, q_mul, q_neg, q_is, q_nis, q_eq, q_ne, entry, List.map, List.replicate], ⟨_, _, rfl, by omega, g2, g3⟩⟩
/-! ### good_right -/
theorem pr_le5 {S : List Int} (h : Good S) (hl : S.length ≤ 5) : pr S ≤ 1024 := by
  have h1 := pr_le h
  have h2 := Nat.pow_le_pow_right (n := 4) (by decide) hl
  have h3 : (4 : Int) ^ S.length ≤ 4 ^ 5 := by exact_mod_cast h2
  omega
theorem every_get {S : List Int} {n : Int} (h : Good S) (h0 : 0 ≤ n) (h1 : n < pr S) : idxD (lT (allV S)) (.int n) = some (tI (vat S n)) := by
  have hl := allV_len h
  show atI ((allV S).map tI) n = _
  rw [at_nn h0 (by rw [List.length_map]; omega), List.getElem?_map, allV_get h h0 h1]
  rfl
theorem loop_whole {S : List Int} {a b d e : Option Cell} (h : Good S) : ∃ c, loopS (tgN 3) (sSet 2 (eOp mulD (eV 2) (eV 3))) (S.map .int) [a, b, some (.val (.int 1)), none, d, e] = .nx [a, b, some (.val (.int (pr S))), c, d, e] := by
  obtain ⟨z, h1, c, rfl⟩ := loop_ints (t := tgN 3) (b := sSet 2 (eOp mulD (eV 2) (eV 3))) (fun x env => ∃ c, env = [a, b, some (.val (.int x)), c, d, e]) (fun x i => x * i) S 1 [a, b, some (.val (.int 1)), none, d, e] ⟨none, rfl⟩ (by
    rintro x i env hi ⟨c, rfl⟩
    have := h i hi
    have hc : x.natAbs < 18446744073709551616 ∨ i.natAbs < 18446744073709551616 ∨ x.natAbs.log2 + i.natAbs.log2 < 1000000 := .inr (.inl (by omega))
    exact ⟨_, [a, b, some (.val (.int (x * i))), some (.val (.int i)), d, e], rfl, by simp [q_bnd, q_ok, q_er, q_bad, q_some, q_none, q_eC, q_eV, q_eZ, q_eOp, q_eUn, q_aNil, q_aCons, q_eTup, q_eLst, q_eApp, q_toB, q_bOf, q_tNo, q_tAn, q_tOt, q_eIf, q_eAn, q_eOt, q_eNo, q_eFn, q_eFnO, q_frv, q_fro, q_fre, q_foo, q_foe, q_sSet, q_sSetO, q_lok, q_ler, q_sNx, q_sSeq, q_sIf, q_sRet, q_sRetF, q_sDo, q_sRetO, q_sRaise, q_sFor, q_sUnp, q_sAug, q_sApp, q_sSetI, q_isOwn, q_setI, q_eIsi, q_iAny, q_it1, q_it2, q_it3, q_iR1, q_iZp, q_zp, q_eLc, q_eLc2, q_oNone, q_oSome, q_iOf, q_eSl, q_sTry, q_eXf, q_fn, q_lt, q_le, q_gt, q_ge, q_sub, q_add, q_iadd, q_fdiv, q_mod, q_pow, q_imul, q_mul, q_neg, q_is, q_nis, q_eq, q_ne, entry, List.map, List.replicate, hc], _, rfl⟩)
  rw [pr_fold, Int.one_mul] at h1
  exact ⟨c, h1⟩
theorem strTold : PyData.strOk ("told" : Str) = true := strOk_of _
theorem good_right {S : List Int} {n : Int} (h : Good S) (hl : S.length ≤ 5) (h0 : 0 ≤ n) (h1 : n < pr S) : F__law_good_right [tI S, .int n] = .ok (.val (.bl true)) := by
  have hp := pr_le5 h hl
  have hl' : S.length ≤ 30 := by omega
  have hlen := allV_len h
  have e1 := worths h hl' hp
  have e2 := all_values h hl' hp
  have e3 := is_sizes (plain_tI S)
  rw [sizesB_tI h hl'] at e3
  have e4 := told_val (w := 0) (b := .non) (.inl rfl) (show callee 0 (tI S) .non = _ from size_product h hl')
  have e5 := every_get h h0 h1
  have e6 := is_values (S := S) (plain_tI (vat S n)) hl'
  rw [vat_values h h0 h1] at e6
  have e7 := told_val (w := 1) (.inr (.inl rfl)) (show callee 1 (tI S) (tI (vat S n)) = _ from index_of h hl' (vat_values h h0 h1))
  rw [idx_vat h h0 h1, Int.zero_mul, Int.zero_add] at e7
  have e8 := told_val (w := 2) (.inr (.inr (.inl rfl))) (show callee 2 (tI S) (.int n) = _ from values_at h hl' h0 h1)
  obtain ⟨c, e9⟩ := loop_whole (a := some (.val (tI S))) (b := some (.val (.int n))) (d := none) (e := none) h
  have q1 := (eo_pair strTold (eo_int (pr S) 0)).ok (by decide)
  have q2 := (eo_pair strTold (eo_int n 0)).ok (by decide)
  have q3 := (eo_pair strTold (eo_tI (vat S n) 0)).ok (by decide)
  have q4 := (eo_lT (allV S) 0).ok (by decide)
  have hb : (allV S).length < 1000000 := by omega
  unfold F__law_good_right
  simp [q_bnd, q_ok, q_er, q_bad, q_some, q_none, q_eC, q_eV, q_eZ, q_eOp, q_eUn, q_aNil, q_aCons, q_eTup, q_eLst, q_eApp, q_toB, q_bOf, q_tNo, q_tAn, q_tOt, q_eIf, q_eAn, q_eOt, q_eNo, q_eFn, q_eFnO, q_frv, q_fro, q_fre, q_foo, q_foe, q_sSet, q_sSetO, q_lok, q_ler, q_sNx, q_sSeq, q_sIf, q_sRet, q_sRetF, q_sDo, q_sRetO, q_sRaise, q_sFor, q_sUnp, q_sAug, q_sApp, q_sSetI, q_isOwn, q_setI, q_eIsi, q_iAny, q_it1, q_it2, q_it3, q_iR1, q_iZp, q_zp, q_eLc, q_eLc2, q_oNone, q_oSome, q_iOf, q_eSl, q_sTry, q_eXf, q_fn, q_lt, q_le, q_gt, q_ge, q_sub, q_add, q_iadd, q_fdiv, q_mod, q_pow, q_imul, q_mul, q_neg, q_is, q_nis, q_eq, q_ne, entry, List.map, List.replicate, m__law_good_right, e1, e2, e3, e4, e5, e6, e7, e8, e9, q1, q2, q3, q4, q_tBor, frzAll, frzC, hb]
end K01
end

section
set_option Elab.async false
set_option linter.all false
set_option maxRecDepth 100000
set_option maxHeartbeats 2000000
namespace K01
open PySem L2 PyProof.Rows PySem.Spec DL
/-! ### bad_right -/
structure Rp (d : D) : Prop where
  ex : ∃ s, reprD d = some (.str s) ∧ PyData.strOk s = true
theorem rp_tn {k w : Nat} {d : D} (h : Tn k w d) (hk : k ≤ 60) (hw : w ≤ 30000) : Rp d := ⟨h.repr hk hw⟩
theorem rp_dict : Rp (.dct []) := ⟨_, rfl, by decide +kernel⟩
theorem tn_str0 : Tn 0 70 (.str "") := ⟨.str "", by simp [toPy], by decide +kernel, by decide +kernel, by decide +kernel, by decide +kernel, by decide +kernel, by decide +kernel⟩
theorem tn_str1 : Tn 0 70 (.str "1") := ⟨.str "1", by simp [toPy], by decide +kernel, by decide +kernel, by decide +kernel, by decide +kernel, by decide +kernel, by decide +kernel⟩
theorem tn_strz : Tn 0 70 (.str "0") := ⟨.str "0", by simp [toPy], by decide +kernel, by decide +kernel, by decide +kernel, by decide +kernel, by decide +kernel, by decide +kernel⟩
theorem tn_nonw : Tn 0 70 .non := tn_non.mono (by decide) (by decide)
theorem tn_blw (b : Bool) : Tn 0 70 (.bl b) := (tn_bl b).mono (by decide) (by decide)
theorem tn_tup1 (i : Int) (h : i.natAbs < 10 ^ 21) : Tn 1 71 (.tup [.int i]) := tn_tup (n := 1) (ds := [.int i]) (by
  intro d hd
  rcases List.mem_cons.mp hd with rfl | hd
  · exact tn_int h
  · cases hd) (by simp)
theorem cut_lo {xs : List D} {i : Int} (h0 : 0 ≤ i) (h1 : i ≤ xs.length) : DL.cutD xs none (some i) = xs.take i.toNat := by
  unfold DL.cutD HT.sIx
  simp only [List.drop_zero]
  rw [if_neg (by omega)]
  simp
theorem cut_hi {xs : List D} {i : Int} (h0 : 0 ≤ i) (h1 : i ≤ xs.length) : DL.cutD xs (some i) none = xs.drop i.toNat := by
  unfold DL.cutD HT.sIx
  simp only
  rw [if_neg (by omega)]
  have e : min i.toNat xs.length = i.toNat := by omega
  rw [e, List.take_of_length_le (by rw [List.length_drop]; omega)]
theorem idx_of {xs : List D} {r : Int} {n : Nat} (hn : xs.length = n) (h0 : 0 ≤ r) (h1 : r < n) : ∃ x, idxD (.lst xs) (.int r) = some x ∧ x ∈ xs := by
  have hl : r.toNat < xs.length := by omega
  refine ⟨xs[r.toNat], ?_, List.getElem_mem hl⟩
  show atI xs r = _
  rw [at_nn h0 (by omega), List.getElem?_eq_getElem hl]
structure BadS (d : D) : Prop where
  pl : plain d = true
  no : sizesB d = false
  rp : Rp d
def body1 : SM := sSeq (sIf (toB (eOp notIsD (eFn F_is_sizes [] (aCons (eV 6) (aNil))) (eC (.bl false)))) (sRet (eC (.bl false))) (sNx))
    (sIf (toB (eOp neD (eLc (iR1 (aCons (eC (.int 4)) (aNil))) [9] (tgN 9) (tYs) (eFn F__law_told [] (aCons (eV 9) (aCons (eV 6) (aCons (eC .non) (aNil)))))) (eOp mulD (eLst (aCons (eLst (aCons (eC (.str "sizes")) (aCons (eApp reprL (aCons (eV 6) (aNil))) (aNil)))) (aNil))) (eC (.int 4))))) (sRet (eC (.bl false))) (sNx))
theorem body1_ok {a b c d e f g h : Option Cell} {x : D} (hx : BadS x) : body1 [a, b, c, d, e, f, some (.val x), g, h, none] = .nx [a, b, c, d, e, f, some (.val x), g, h, none] := by
  obtain ⟨s, hr, hs⟩ := hx.rp.ex
  have e1 := is_sizes hx.pl
  rw [hx.no] at e1
  have hw : ∀ w : Int, way w → F__law_told [.int w, x, .non] = .ok (.val (.lst [.str "sizes", .str s])) := by
    intro w hw
    refine told_er (c := 0) hw (by decide) ?_ hr
    unfold callee
    split
    · exact size_product_bad hx.pl hx.no
    · split
      · exact index_of_bad hx.pl hx.no
      · split
        · exact values_at_bad hx.pl hx.no
        · exact all_values_bad hx.pl hx.no
  have w0 := hw 0 (.inl rfl)
  have w1 := hw 1 (.inr (.inl rfl))
  have w2 := hw 2 (.inr (.inr (.inl rfl)))
  have w3 := hw 3 (.inr (.inr (.inr rfl)))
  have el : lcLoop (tgN 9) [9] tYs (eFn F__law_told [] (aCons (eV 9) (aCons (eV 6) (aCons (eC .non) (aNil))))) (rangeL 0 4) [a, b, c, d, e, f, some (.val x), g, h, none] [] = .ok ([.lst [.str "sizes", .str s], .lst [.str "sizes", .str s], .lst [.str "sizes", .str s], .lst [.str "sizes", .str s]], [a, b, c, d, e, f, some (.val x), g, h, none]) := by
    simp [q_bnd, q_ok, q_er, q_bad, q_some, q_none, q_eC, q_eV, q_eZ, q_eOp, q_eUn, q_aNil, q_aCons, q_eTup, q_eLst, q_eApp, q_toB, q_bOf, q_tNo, q_tAn, q_tOt, q_eIf, q_eAn, q_eOt, q_eNo, q_eFn, q_eFnO, q_frv, q_fro, q_fre, q_foo, q_foe, q_sSet, q_sSetO, q_lok, q_ler, q_sNx, q_sSeq, q_sIf, q_sRet, q_sRetF, q_sDo, q_sRetO, q_sRaise, q_sFor, q_sUnp, q_sAug, q_sApp, q_sSetI, q_isOwn, q_setI, q_eIsi, q_iAny, q_it1, q_it2, q_it3, q_iR1, q_iZp, q_zp, q_eLc, q_eLc2, q_oNone, q_oSome, q_iOf, q_eSl, q_sTry, q_eXf, q_fn, q_lt, q_le, q_gt, q_ge, q_sub, q_add, q_iadd, q_fdiv, q_mod, q_pow, q_imul, q_mul, q_neg, q_is, q_nis, q_eq, q_ne, entry, List.map, List.replicate, rangeL, lcLoop, tYs, tgN, wipeE, w0, w1, w2, w3]
  have q := (eo_lst (ds := [.lst [.str "sizes", .str s], .lst [.str "sizes", .str s], .lst [.str "sizes", .str s], .lst [.str "sizes", .str s]]) (k := 1) (by
    intro y hy
    have : y = .lst [.str "sizes", .str s] := by simpa using hy
    rw [this]
    exact eo_pair (strOk_of _) (eo_str hs 0))).ok (by decide)
  have hr1 := q_r1 (j := 4) (by decide) (by decide)
  unfold body1
  simp [q_bnd, q_ok, q_er, q_bad, q_some, q_none, q_eC, q_eV, q_eZ, q_eOp, q_eUn, q_aNil, q_aCons, q_eTup, q_eLst, q_eApp, q_toB, q_bOf, q_tNo, q_tAn, q_tOt, q_eIf, q_eAn, q_eOt, q_eNo, q_eFn, q_eFnO, q_frv, q_fro, q_fre, q_foo, q_foe, q_sSet, q_sSetO, q_lok, q_ler, q_sNx, q_sSeq, q_sIf, q_sRet, q_sRetF, q_sDo, q_sRetO, q_sRaise, q_sFor, q_sUnp, q_sAug, q_sApp, q_sSetI, q_isOwn, q_setI, q_eIsi, q_iAny, q_it1, q_it2, q_it3, q_iR1, q_iZp, q_zp, q_eLc, q_eLc2, q_oNone, q_oSome, q_iOf, q_eSl, q_sTry, q_eXf, q_fn, q_lt, q_le, q_gt, q_ge, q_sub, q_add, q_iadd, q_fdiv, q_mod, q_pow, q_imul, q_mul, q_neg, q_is, q_nis, q_eq, q_ne, entry, List.map, List.replicate, e1, hr1, wipeE, el, restE, keepV, reprL, hr, mulD, q]
structure BadV (S : List Int) (d : D) : Prop where
  pl : plain d = true
  no : valuesB S d = false
  rp : Rp d
structure BadN (S : List Int) (d : D) : Prop where
  pl : isObj d = false
  no : numB S d = false
  rp : Rp d
theorem strW : PyData.strOk ("worths" : Str) = true := strOk_of _
theorem strN : PyData.strOk ("number" : Str) = true := strOk_of _
def body2 : SM := sIf (tOt (toB (eOp notIsD (eFn F_is_values [] (aCons (eV 1) (aCons (eV 6) (aNil)))) (eC (.bl false)))) (toB (eOp neD (eFn F__law_told [] (aCons (eC (.int 1)) (aCons (eV 1) (aCons (eV 6) (aNil))))) (eLst (aCons (eC (.str "worths")) (aCons (eApp reprL (aCons (eV 6) (aNil))) (aNil))))))) (sRet (eC (.bl false))) (sNx)
theorem body2_ok {S : List Int} {a c d e f g h j : Option Cell} {x : D} (hS : Good S) (hl : S.length ≤ 30) (hx : BadV S x) : body2 [a, some (.val (tI S)), c, d, e, f, some (.val x), g, h, j] = .nx [a, some (.val (tI S)), c, d, e, f, some (.val x), g, h, j] := by
  obtain ⟨s, hr, hs⟩ := hx.rp.ex
  have e1 := is_values (S := S) hx.pl hl
  rw [hx.no] at e1
  have e2 : F__law_told [.int 1, tI S, x] = .ok (.val (.lst [.str "worths", .str s])) := told_er (c := 1) (.inr (.inl rfl)) (by decide) (show callee 1 (tI S) x = _ from index_of_bad2 hS hl hx.pl hx.no) hr
  have q := (eo_pair strW (eo_str hs 0)).ok (by decide)
  unfold body2
  simp [q_bnd, q_ok, q_er, q_bad, q_some, q_none, q_eC, q_eV, q_eZ, q_eOp, q_eUn, q_aNil, q_aCons, q_eTup, q_eLst, q_eApp, q_toB, q_bOf, q_tNo, q_tAn, q_tOt, q_eIf, q_eAn, q_eOt, q_eNo, q_eFn, q_eFnO, q_frv, q_fro, q_fre, q_foo, q_foe, q_sSet, q_sSetO, q_lok, q_ler, q_sNx, q_sSeq, q_sIf, q_sRet, q_sRetF, q_sDo, q_sRetO, q_sRaise, q_sFor, q_sUnp, q_sAug, q_sApp, q_sSetI, q_isOwn, q_setI, q_eIsi, q_iAny, q_it1, q_it2, q_it3, q_iR1, q_iZp, q_zp, q_eLc, q_eLc2, q_oNone, q_oSome, q_iOf, q_eSl, q_sTry, q_eXf, q_fn, q_lt, q_le, q_gt, q_ge, q_sub, q_add, q_iadd, q_fdiv, q_mod, q_pow, q_imul, q_mul, q_neg, q_is, q_nis, q_eq, q_ne, entry, List.map, List.replicate, e1, e2, reprL, hr, q]
def body3 : SM := sIf (toB (eOp neD (eFn F__law_told [] (aCons (eC (.int 2)) (aCons (eV 1) (aCons (eV 6) (aNil))))) (eLst (aCons (eC (.str "number")) (aCons (eApp reprL (aCons (eV 6) (aNil))) (aNil)))))) (sRet (eC (.bl false))) (sNx)
theorem body3_ok {S : List Int} {a c d e f g h j : Option Cell} {x : D} (hS : Good S) (hl : S.length ≤ 30) (hx : BadN S x) : body3 [a, some (.val (tI S)), c, d, e, f, some (.val x), g, h, j] = .nx [a, some (.val (tI S)), c, d, e, f, some (.val x), g, h, j] := by
  obtain ⟨s, hr, hs⟩ := hx.rp.ex
  have e2 : F__law_told [.int 2, tI S, x] = .ok (.val (.lst [.str "number", .str s])) := told_er (c := 2) (.inr (.inr (.inl rfl))) (by decide) (show callee 2 (tI S) x = _ from values_at_bad2 hS hl hx.pl hx.no) hr
  have q := (eo_pair strN (eo_str hs 0)).ok (by decide)
  unfold body3
  simp [q_bnd, q_ok, q_er, q_bad, q_some, q_none, q_eC, q_eV, q_eZ, q_eOp, q_eUn, q_aNil, q_aCons, q_eTup, q_eLst, q_eApp, q_toB, q_bOf, q_tNo, q_tAn, q_tOt, q_eIf, q_eAn, q_eOt, q_eNo, q_eFn, q_eFnO, q_frv, q_fro, q_fre, q_foo, q_foe, q_sSet, q_sSetO, q_lok, q_ler, q_sNx, q_sSeq, q_sIf, q_sRet, q_sRetF, q_sDo, q_sRetO, q_sRaise, q_sFor, q_sUnp, q_sAug, q_sApp, q_sSetI, q_isOwn, q_setI, q_eIsi, q_iAny, q_it1, q_it2, q_it3, q_iR1, q_iZp, q_zp, q_eLc, q_eLc2, q_oNone, q_oSome, q_iOf, q_eSl, q_sTry, q_eXf, q_fn, q_lt, q_le, q_gt, q_ge, q_sub, q_add, q_iadd, q_fdiv, q_mod, q_pow, q_imul, q_mul, q_neg, q_is, q_nis, q_eq, q_ne, entry, List.map, List.replicate, e2, reprL, hr, q]
theorem loop1 {a b c d e f g h i : Option Cell} {xs : List D} (hx : ∀ x ∈ xs, BadS x) : ∃ z, loopS (tgN 6) body1 xs [a, b, c, d, e, f, i, g, h, none] = .nx [a, b, c, d, e, f, z, g, h, none] := by
  obtain ⟨w, h1, z, rfl⟩ := loop_fold (t := tgN 6) (b := body1) (fun (_ : Unit) env => ∃ z, env = [a, b, c, d, e, f, z, g, h, none]) (fun _ _ => ()) xs () [a, b, c, d, e, f, i, g, h, none] ⟨i, rfl⟩ (by
    rintro u x env hm ⟨z, rfl⟩
    exact ⟨_, _, rfl, body1_ok (hx x hm), _, rfl⟩)
  exact ⟨z, h1⟩
theorem loop2 {S : List Int} {a c d e f g h i j : Option Cell} {xs : List D} (hS : Good S) (hl : S.length ≤ 30) (hx : ∀ x ∈ xs, BadV S x) : ∃ z, loopS (tgN 6) body2 xs [a, some (.val (tI S)), c, d, e, f, i, g, h, j] = .nx [a, some (.val (tI S)), c, d, e, f, z, g, h, j] := by
  obtain ⟨w, h1, z, rfl⟩ := loop_fold (t := tgN 6) (b := body2) (fun (_ : Unit) env => ∃ z, env = [a, some (.val (tI S)), c, d, e, f, z, g, h, j]) (fun _ _ => ()) xs () [a, some (.val (tI S)), c, d, e, f, i, g, h, j] ⟨i, rfl⟩ (by
    rintro u x env hm ⟨z, rfl⟩
    exact ⟨_, _, rfl, body2_ok hS hl (hx x hm), _, rfl⟩)
  exact ⟨z, h1⟩
theorem loop3 {S : List Int} {a c d e f g h i j : Option Cell} {xs : List D} (hS : Good S) (hl : S.length ≤ 30) (hx : ∀ x ∈ xs, BadN S x) : ∃ z, loopS (tgN 6) body3 xs [a, some (.val (tI S)), c, d, e, f, i, g, h, j] = .nx [a, some (.val (tI S)), c, d, e, f, z, g, h, j] := by
  obtain ⟨w, h1, z, rfl⟩ := loop_fold (t := tgN 6) (b := body3) (fun (_ : Unit) env => ∃ z, env = [a, some (.val (tI S)), c, d, e, f, z, g, h, j]) (fun _ _ => ()) xs () [a, some (.val (tI S)), c, d, e, f, i, g, h, j] ⟨i, rfl⟩ (by
    rintro u x env hm ⟨z, rfl⟩
    exact ⟨_, _, rfl, body3_ok hS hl (hx x hm), _, rfl⟩)
  exact ⟨z, h1⟩
theorem seq_nx {p q : SM} {env e : DEnv} (h : p env = .nx e) : sSeq p q env = q e := by
  unfold sSeq
  rw [h]
/-- take within an expression -/
theorem take_at {d d' : D} {r : Int} {i : Nat} {env e2 : DEnv} {a : EM (List D)} {n : Int} (h1 : env[i]? = some (some (.own d))) (h2 : a env = .ok ([.int n], e2)) (h3 : e2[i]? = some (some (.own d))) (h : F__law_take d [.int n] = .ok (.int r) d') : eFnT F__law_take i a env = .ok (.int r, e2.set i (some (.own d'))) := q_eFnT h1 h2 h3 h
theorem small {i : Int} (h : i ≤ 1024) (h0 : -1 ≤ i) : i.natAbs < 10 ^ 21 := by
  have : (10 : Nat) ^ 21 = 1000000000000000000000 := by decide
  omega
/-- the sizes with an odd one among them -/
theorem badS_odd {S : List Int} {o : D} {k : Nat} (h : Good S) (hl : S.length ≤ 5) (ho : sizeB o = false) (hb : isObj o = false) (ht : Tn 1 71 o) : BadS (.tup ((S.map .int).take k ++ [o] ++ (S.map .int).drop k)) := by
  refine ⟨?_, ?_, ?_⟩
  · simp only [plain, List.all_append, List.all_cons, List.all_nil, hb, Bool.and_true, Bool.not_false, Bool.and_eq_true, List.all_eq_true]
    constructor
    · intro x hx
      obtain ⟨s, _, rfl⟩ := List.mem_map.mp (List.mem_of_mem_take hx)
      rfl
    · intro x hx
      obtain ⟨s, _, rfl⟩ := List.mem_map.mp (List.mem_of_mem_drop hx)
      rfl
  · simp [sizesB, ho]
  · have t : Tn 2 (6 * 72) (.tup ((S.map .int).take k ++ [o] ++ (S.map .int).drop k)) := tn_tup (k := 1) (w := 71) (n := 6) (by
      intro x hx
      have hi : ∀ x ∈ S.map D.int, Tn 1 71 x := by
        intro x hx
        obtain ⟨s, hs, rfl⟩ := List.mem_map.mp hx
        have := h s hs
        exact (tn_int (small (by omega) (by omega))).mono (by decide) (by decide)
      simp only [List.mem_append, List.mem_cons, List.not_mem_nil, or_false] at hx
      rcases hx with (hx | rfl) | hx
      · exact hi x (List.mem_of_mem_take hx)
      · exact ht
      · exact hi x (List.mem_of_mem_drop hx)) (by simp; omega)
    exact rp_tn t (by decide) (by decide)
theorem badS_list {S : List Int} (h : Good S) (hl : S.length ≤ 5) : BadS (.lst (S.map .int)) := ⟨rfl, rfl, rp_tn (tn_lst (k := 0) (w := 70) (n := 5) (by
  intro x hx
  obtain ⟨s, hs, rfl⟩ := List.mem_map.mp hx
  have := h s hs
  exact tn_int (small (by omega) (by omega))) (by simpa using hl)) (by decide) (by decide)⟩
theorem badS_31 : BadS (.tup (List.replicate 31 (.int 1))) := ⟨by decide +kernel, by decide +kernel, rp_tn (tn_tup (k := 0) (w := 70) (n := 31) (by
  intro x hx
  rw [(List.mem_replicate.mp hx).2]
  exact tn_int (by decide)) (by simp)) (by decide) (by decide)⟩
theorem badS_rest {d : D} (h : d = .non ∨ d = .int 3 ∨ d = .str "" ∨ d = .dct []) : BadS d := by
  rcases h with rfl | rfl | rfl | rfl
  · exact ⟨rfl, rfl, rp_tn tn_nonw (by decide) (by decide)⟩
  · exact ⟨rfl, rfl, rp_tn (tn_int (by decide)) (by decide) (by decide)⟩
  · exact ⟨rfl, rfl, rp_tn tn_str0 (by decide) (by decide)⟩
  · exact ⟨rfl, rfl, rp_dict⟩
end K01
end

section
set_option Elab.async false
set_option linter.all false
set_option maxRecDepth 100000
set_option maxHeartbeats 2000000
namespace K01
open PySem L2 PyProof.Rows PySem.Spec DL
theorem tn_ints {V : List Int} {m : Nat} (h : ∀ v ∈ V, 0 ≤ v ∧ v ≤ 1024) : ∀ x ∈ V.map D.int, Tn 1 71 x := by
  intro x hx
  obtain ⟨s, hs, rfl⟩ := List.mem_map.mp hx
  have := h s hs
  exact (tn_int (small (by omega) (by omega))).mono (by decide) (by decide)
theorem vat_small : ∀ {S : List Int} {n : Int}, Good S → 0 ≤ n → n < pr S → ∀ v ∈ vat S n, 0 ≤ v ∧ v ≤ 1024
  | [], n, _, _, _ => by simp [vat]
  | s :: S, n, h, h0, h1 => by
    have hS : Good S := fun x hx => h x (List.mem_cons_of_mem _ hx)
    have hs := h s List.mem_cons_self
    have hp := pr_pos hS
    rw [pr] at h1
    have hq0 : 0 ≤ n / pr S := Int.ediv_nonneg h0 (by omega)
    have hq1 : n / pr S < s := Int.ediv_lt_of_lt_mul (by omega) h1
    intro v hv
    rw [vat] at hv
    rcases List.mem_cons.mp hv with rfl | hv
    · omega
    · exact vat_small hS (Int.emod_nonneg n (by omega)) (Int.emod_lt_of_pos n (by omega)) v hv
theorem plain_tup {xs : List D} (h : ∀ x ∈ xs, isObj x = false) : plain (.tup xs) = true := by
  simp only [plain, List.all_eq_true]
  intro x hx
  rw [h x hx]
  rfl
theorem int_obj {V : List Int} : ∀ x ∈ V.map D.int, isObj x = false := by
  intro x hx
  obtain ⟨s, _, rfl⟩ := List.mem_map.mp hx
  rfl
/-- another length -/
theorem badV_len {S : List Int} {xs : List D} (hl : xs.length ≠ S.length) (hx : ∀ x ∈ xs, isObj x = false ∧ Tn 1 71 x) (hn : xs.length ≤ 10) : BadV S (.tup xs) :=
  ⟨plain_tup fun x h => (hx x h).1, by simp [valuesB, hl], rp_tn (tn_tup (n := 10) (fun x h => (hx x h).2) hn) (by decide) (by decide)⟩
theorem badV_rest {S : List Int} {d : D} (h : d = .non ∨ d = .int 0 ∨ d = .str "" ∨ d = .dct []) : BadV S d := by
  rcases h with rfl | rfl | rfl | rfl
  · exact ⟨rfl, rfl, rp_tn tn_nonw (by decide) (by decide)⟩
  · exact ⟨rfl, rfl, rp_tn (tn_int (by decide)) (by decide) (by decide)⟩
  · exact ⟨rfl, rfl, rp_tn tn_str0 (by decide) (by decide)⟩
  · exact ⟨rfl, rfl, rp_dict⟩
theorem badV_list {S : List Int} {xs : List D} (hx : ∀ x ∈ xs, Tn 1 71 x) (hn : xs.length ≤ 10) : BadV S (.lst xs) := ⟨rfl, rfl, rp_tn (tn_lst (n := 10) hx hn) (by decide) (by decide)⟩
theorem zip_at : ∀ {xs ys : List D} {i : Nat} {x y : D}, xs[i]? = some x → ys[i]? = some y → .tup [x, y] ∈ zipL xs ys := by
  intro xs ys i x y h1 h2
  exact List.mem_of_getElem? (zipL_get xs ys i x y h1 h2)
/-- an odd item at its place -/
theorem badV_odd {S V : List Int} {o : D} {k : Nat} {s : Int} (hV : V.length = S.length) (hl : S.length ≤ 5) (hk : S[k]? = some s) (hv : ∀ v ∈ V, 0 ≤ v ∧ v ≤ 1024) (ho : itemB o s = false) (hb : isObj o = false) (ht : Tn 1 71 o) : BadV S (.tup ((V.map .int).take k ++ [o] ++ (V.map .int).drop (k + 1))) := by
  have hlt : k < S.length := (List.getElem?_eq_some_iff.mp hk).1
  have hi := tn_ints (m := 0) hv
  refine ⟨plain_tup ?_, ?_, ?_⟩
  · intro x hx
    simp only [List.mem_append, List.mem_cons, List.not_mem_nil, or_false] at hx
    rcases hx with (hx | rfl) | hx
    · exact int_obj x (List.mem_of_mem_take hx)
    · exact hb
    · exact int_obj x (List.mem_of_mem_drop hx)
  · have e : ((V.map D.int).take k ++ [o] ++ (V.map D.int).drop (k + 1))[k]? = some o := by
      rw [List.append_assoc, List.getElem?_append_right (by simp; omega)]
      simp [Nat.min_eq_left (show k ≤ V.length by omega)]
    have e2 : (S.map D.int)[k]? = some (.int s) := by
      rw [List.getElem?_map, hk]
      rfl
    have m := zip_at e e2
    simp only [valuesB, Bool.and_eq_false_iff]
    right
    rw [List.all_eq_false]
    exact ⟨_, m, by simp [pairB, ho]⟩
  · refine rp_tn (tn_tup (k := 1) (w := 71) (n := 10) ?_ (by simp; omega)) (by decide) (by decide)
    intro x hx
    simp only [List.mem_append, List.mem_cons, List.not_mem_nil, or_false] at hx
    rcases hx with (hx | rfl) | hx
    · exact hi x (List.mem_of_mem_take hx)
    · exact ht
    · exact hi x (List.mem_of_mem_drop hx)
theorem odd1 {o : D} (h : o ∈ [D.int 0, .int 5, .bl true, .non, .str "1", .tup [.int 1], .int (-1), .int 100000000000000000000]) : sizeB o = false ∧ isObj o = false ∧ Tn 1 71 o := by
  simp only [List.mem_cons, List.not_mem_nil, or_false] at h
  have up : ∀ {d : D}, Tn 0 70 d → Tn 1 71 d := fun h => h.mono (by decide) (by decide)
  rcases h with rfl | rfl | rfl | rfl | rfl | rfl | rfl | rfl
  · exact ⟨by decide +kernel, rfl, up (tn_int (by decide))⟩
  · exact ⟨by decide +kernel, rfl, up (tn_int (by decide))⟩
  · exact ⟨by decide +kernel, rfl, up (tn_blw _)⟩
  · exact ⟨by decide +kernel, rfl, up tn_nonw⟩
  · exact ⟨by decide +kernel, rfl, up tn_str1⟩
  · exact ⟨by decide +kernel, rfl, tn_tup1 1 (by decide)⟩
  · exact ⟨by decide +kernel, rfl, up (tn_int (by decide))⟩
  · exact ⟨by decide +kernel, rfl, up (tn_int (by decide +kernel))⟩
theorem odd2 {o : D} {s : Int} (hs : 1 ≤ s ∧ s ≤ 4) (h : o ∈ [D.int s, .int (-1), .bl true, .bl false, .non, .str "0", .tup [.int 0], .int 100000000000000000000]) : itemB o s = false ∧ isObj o = false ∧ Tn 1 71 o := by
  simp only [List.mem_cons, List.not_mem_nil, or_false] at h
  have up : ∀ {d : D}, Tn 0 70 d → Tn 1 71 d := fun h => h.mono (by decide) (by decide)
  rcases h with rfl | rfl | rfl | rfl | rfl | rfl | rfl | rfl
  · exact ⟨by simp [itemB], rfl, up (tn_int (small (by omega) (by omega)))⟩
  · exact ⟨by simp [itemB, intB], rfl, up (tn_int (by decide))⟩
  · exact ⟨rfl, rfl, up (tn_blw _)⟩
  · exact ⟨rfl, rfl, up (tn_blw _)⟩
  · exact ⟨rfl, rfl, up tn_nonw⟩
  · exact ⟨rfl, rfl, up tn_strz⟩
  · exact ⟨rfl, rfl, tn_tup1 0 (by decide)⟩
  · exact ⟨by simp [itemB]; omega, rfl, up (tn_int (by decide +kernel))⟩
theorem badN_all {S : List Int} {d : D} (h : Good S) (hp : pr S ≤ 1024) (hd : d ∈ [D.int (pr S), .int (-1), .bl true, .bl false, .non, .str "0", .tup [.int 0], .lst [], .int (pr S + 100000000000000000000)]) : BadN S d := by
  have h1 := pr_pos h
  have e : (10 : Nat) ^ 21 = 1000000000000000000000 := by decide
  simp only [List.mem_cons, List.not_mem_nil, or_false] at hd
  rcases hd with rfl | rfl | rfl | rfl | rfl | rfl | rfl | rfl | rfl
  · exact ⟨rfl, by simp [numB], rp_tn (tn_int (small (by omega) (by omega))) (by decide) (by decide)⟩
  · exact ⟨rfl, by simp [numB, intB], rp_tn (tn_int (by decide)) (by decide) (by decide)⟩
  · exact ⟨rfl, rfl, rp_tn (tn_blw _) (by decide) (by decide)⟩
  · exact ⟨rfl, rfl, rp_tn (tn_blw _) (by decide) (by decide)⟩
  · exact ⟨rfl, rfl, rp_tn tn_nonw (by decide) (by decide)⟩
  · exact ⟨rfl, rfl, rp_tn tn_strz (by decide) (by decide)⟩
  · exact ⟨rfl, rfl, rp_tn (tn_tup1 0 (by decide)) (by decide) (by decide)⟩
  · exact ⟨rfl, rfl, rp_tn (tn_lst (k := 0) (w := 0) (n := 0) (ds := []) (fun x hx => by cases hx) (by simp)) (by decide) (by decide)⟩
  · exact ⟨rfl, by simp [numB]; omega, rp_tn (tn_int (by omega)) (by decide) (by decide)⟩
end K01
end

section
set_option Elab.async false
set_option linter.all false
set_option maxRecDepth 100000
set_option maxHeartbeats 2000000
namespace K01
open PySem L2 PyProof.Rows PySem.Spec DL
def nums : EM D := eLst (aCons (eApp lenD (aCons (eV 3) (aNil))) (aCons (eUn negD (eC (.int 1))) (aCons (eC (.bl true)) (aCons (eC (.bl false)) (aCons (eC .non) (aCons (eC (.str "0")) (aCons (eTup (aCons (eC (.int 0)) (aNil))) (aCons (eLst (aNil)) (aCons (eOp addD (eApp lenD (aCons (eV 3) (aNil))) (eOp powD (eC (.int 10)) (eC (.int 20)))) (aNil))))))))))
theorem tail_ok {S : List Int} {a c e f g i j : Option Cell} {xs : List D} (hS : Good S) (hl : S.length ≤ 5) (hx : ∀ x ∈ xs, BadV S x) :
    ∃ z, sSeq (sFor (iAny (eV 8)) (tgN 6) body2) (sSeq (sFor (iAny nums) (tgN 6) body3) (sRet (eC (.bl true)))) [a, some (.val (tI S)), c, some (.val (lT (allV S))), e, f, i, g, some (.val (.lst xs)), j] = .rt (.val (.bl true)) [a, some (.val (tI S)), c, some (.val (lT (allV S))), e, f, z, g, some (.val (.lst xs)), j] := by
  obtain ⟨z1, L2⟩ := loop2 (a := a) (c := c) (d := some (.val (lT (allV S)))) (e := e) (f := f) (g := g) (h := some (.val (.lst xs))) (i := i) (j := j) hS (by omega) hx
  have hp := pr_le5 hS hl
  obtain ⟨z2, L3⟩ := loop3 (a := a) (c := c) (d := some (.val (lT (allV S)))) (e := e) (f := f) (g := g) (h := some (.val (.lst xs))) (i := z1) (j := j) (xs := [D.int (pr S), .int (-1), .bl true, .bl false, .non, .str "0", .tup [.int 0], .lst [], .int (pr S + 100000000000000000000)]) hS (by omega) (fun x hx => badN_all hS hp hx)
  have hn : lenD [lT (allV S)] = some (.int (pr S)) := by
    simp only [lenD, lT, List.length_map]
    rw [allV_len hS]
  refine ⟨z2, ?_⟩
  refine (seq_nx (e := [a, some (.val (tI S)), c, some (.val (lT (allV S))), e, f, z1, g, some (.val (.lst xs)), j]) (by simp [q_bnd, q_ok, q_er, q_bad, q_some, q_none, q_eC, q_eV, q_eZ, q_eOp, q_eUn, q_aNil, q_aCons, q_eTup, q_eLst, q_eApp, q_toB, q_bOf, q_tNo, q_tAn, q_tOt, q_eIf, q_eAn, q_eOt, q_eNo, q_eFn, q_eFnO, q_frv, q_fro, q_fre, q_foo, q_foe, q_sSet, q_sSetO, q_lok, q_ler, q_sNx, q_sSeq, q_sIf, q_sRet, q_sRetF, q_sDo, q_sRetO, q_sRaise, q_sFor, q_sUnp, q_sAug, q_sApp, q_sSetI, q_isOwn, q_setI, q_eIsi, q_iAny, q_it1, q_it2, q_it3, q_iR1, q_iZp, q_zp, q_eLc, q_eLc2, q_oNone, q_oSome, q_iOf, q_eSl, q_sTry, q_eXf, q_fn, q_lt, q_le, q_gt, q_ge, q_sub, q_add, q_iadd, q_fdiv, q_mod, q_pow, q_imul, q_mul, q_neg, q_is, q_nis, q_eq, q_ne, entry, L2])).trans ?_
  refine (seq_nx (e := [a, some (.val (tI S)), c, some (.val (lT (allV S))), e, f, z2, g, some (.val (.lst xs)), j]) ?_).trans (by simp [q_bnd, q_ok, q_er, q_bad, q_some, q_none, q_eC, q_eV, q_eZ, q_eOp, q_eUn, q_aNil, q_aCons, q_eTup, q_eLst, q_eApp, q_toB, q_bOf, q_tNo, q_tAn, q_tOt, q_eIf, q_eAn, q_eOt, q_eNo, q_eFn, q_eFnO, q_frv, q_fro, q_fre, q_foo, q_foe, q_sSet, q_sSetO, q_lok, q_ler, q_sNx, q_sSeq, q_sIf, q_sRet, q_sRetF, q_sDo, q_sRetO, q_sRaise, q_sFor, q_sUnp, q_sAug, q_sApp, q_sSetI, q_isOwn, q_setI, q_eIsi, q_iAny, q_it1, q_it2, q_it3, q_iR1, q_iZp, q_zp, q_eLc, q_eLc2, q_oNone, q_oSome, q_iOf, q_eSl, q_sTry, q_eXf, q_fn, q_lt, q_le, q_gt, q_ge, q_sub, q_add, q_iadd, q_fdiv, q_mod, q_pow, q_imul, q_mul, q_neg, q_is, q_nis, q_eq, q_ne, entry])
  rw [q_sFor]
  have e1 : iAny nums [a, some (.val (tI S)), c, some (.val (lT (allV S))), e, f, z1, g, some (.val (.lst xs)), j] = .ok ([D.int (pr S), .int (-1), .bl true, .bl false, .non, .str "0", .tup [.int 0], .lst [], .int (pr S + 100000000000000000000)], [a, some (.val (tI S)), c, some (.val (lT (allV S))), e, f, z1, g, some (.val (.lst xs)), j]) := by
    simp [q_bnd, q_ok, q_er, q_bad, q_some, q_none, q_eC, q_eV, q_eZ, q_eOp, q_eUn, q_aNil, q_aCons, q_eTup, q_eLst, q_eApp, q_toB, q_bOf, q_tNo, q_tAn, q_tOt, q_eIf, q_eAn, q_eOt, q_eNo, q_eFn, q_eFnO, q_frv, q_fro, q_fre, q_foo, q_foe, q_sSet, q_sSetO, q_lok, q_ler, q_sNx, q_sSeq, q_sIf, q_sRet, q_sRetF, q_sDo, q_sRetO, q_sRaise, q_sFor, q_sUnp, q_sAug, q_sApp, q_sSetI, q_isOwn, q_setI, q_eIsi, q_iAny, q_it1, q_it2, q_it3, q_iR1, q_iZp, q_zp, q_eLc, q_eLc2, q_oNone, q_oSome, q_iOf, q_eSl, q_sTry, q_eXf, q_fn, q_lt, q_le, q_gt, q_ge, q_sub, q_add, q_iadd, q_fdiv, q_mod, q_pow, q_imul, q_mul, q_neg, q_is, q_nis, q_eq, q_ne, entry, nums, hn]
  rw [e1, q_lok, L3]
theorem eq_empty {V : List Int} : eqB (tI V) (.tup []) = some (decide (V = [])) := by
  have e : ∀ V : List Int, toPyL (V.map .int) = some (V.map .int) := by
    intro V
    induction V with
    | nil => simp [toPyL]
    | cons v V ih => simp [toPyL, toPy, ih]
  have q : ∀ V : List Int, SeqAt.shaped (.tuple (V.map .int)) = true := by
    intro V
    have := lay_all (k := 0) (xs := V.map .int) (by
      intro x hx
      obtain ⟨s, _, rfl⟩ := List.mem_map.mp hx
      exact ⟨by simp [PyData.canLay0], by simp [PyData.depth]⟩)
    refine Bool.and_eq_true_iff.mpr ⟨by simp only [PyData.canLay0, this.1], decide_eq_true ?_⟩
    rw [PyData.depth]
    have := this.2
    omega
  have q0 : SeqAt.shaped (.tuple []) = true := q []
  unfold eqB
  simp only [toPy, e, Option.map_some, Option.bind_some, toPyL, q V, q0, Bool.and_self, if_true]
  cases V with
  | nil => simp [PyData.eqv, PyData.eqvAll]
  | cons v V => simp [PyData.eqv, PyData.eqvAll]
theorem bad_right {S : List Int} {n : Int} {d : D} (h : Good S) (hl : S.length ≤ 5) (h0 : 0 ≤ n) (h1 : n < pr S) (hd : PoolOk d) : ∃ d', F__law_bad_right d [tI S, .int n] = .ok (.bl true) d' ∧ PoolOk d' := by
  have hp := pr_le5 h hl
  have hl' : S.length ≤ 30 := by omega
  have e1 := worths h hl' hp
  have e5 := every_get h h0 h1
  obtain ⟨r1, d1, t1, r10, r11, p1⟩ := take_ok (n := S.length + 1) hd (by omega) (by omega)
  obtain ⟨r2, d2, t2, r20, r21, p2⟩ := take_ok (n := 8) p1 (by omega) (by omega)
  obtain ⟨o, ho, hom⟩ := idx_of (xs := [D.int 0, .int 5, .bl true, .non, .str "1", .tup [.int 1], .int (-1), .int 100000000000000000000]) (n := 8) rfl r20 (by omega)
  obtain ⟨o1, o2, o3⟩ := odd1 hom
  obtain ⟨z1, L1⟩ := loop1 (a := some (.own d2)) (b := some (.val (tI S))) (c := some (.val (.int n))) (d := some (.val (lT (allV S)))) (e := some (.val (.int r1))) (f := some (.val o)) (g := none) (h := none) (i := none)
    (xs := [.tup ((S.map .int).take r1.toNat ++ [o] ++ (S.map .int).drop r1.toNat), .lst (S.map .int), .non, .int 3, .tup (List.replicate 31 (.int 1)), .str "", .dct []]) (by
      intro x hx
      simp only [List.mem_cons, List.not_mem_nil, or_false] at hx
      rcases hx with rfl | rfl | rfl | rfl | rfl | rfl | rfl
      · exact badS_odd h hl o1 o2 o3
      · exact badS_list h hl
      · exact badS_rest (.inl rfl)
      · exact badS_rest (.inr (.inl rfl))
      · exact badS_31
      · exact badS_rest (.inr (.inr (.inl rfl)))
      · exact badS_rest (.inr (.inr (.inr rfl))))
  have hmap : (S.map D.int).length = S.length := List.length_map ..
  have c1 := cut_lo (xs := S.map D.int) (i := r1) r10 (by omega)
  have c2 := cut_hi (xs := S.map D.int) (i := r1) r10 (by omega)
  suffices hm : ∃ d' e, m__law_bad_right [some (.own d), some (.val (tI S)), some (.val (.int n)), none, none, none, none, none, none, none] = .rt (.val (.bl true)) (some (.own d') :: e) ∧ PoolOk d' by
    obtain ⟨d', e, hm, hp'⟩ := hm
    refine ⟨d', ?_, hp'⟩
    unfold F__law_bad_right fnSemT
    rw [if_pos (show [tI S, D.int n].length + 1 = 3 from rfl), show entryT 10 d [tI S, .int n] = [some (.own d), some (.val (tI S)), some (.val (.int n)), none, none, none, none, none, none, none] from rfl, hm]
    rfl
  unfold m__law_bad_right
  rw [seq_nx (e := [some (.own d), some (.val (tI S)), some (.val (.int n)), some (.val (lT (allV S))), none, none, none, none, none, none]) (by simp [q_bnd, q_ok, q_er, q_bad, q_some, q_none, q_eC, q_eV, q_eZ, q_eOp, q_eUn, q_aNil, q_aCons, q_eTup, q_eLst, q_eApp, q_toB, q_bOf, q_tNo, q_tAn, q_tOt, q_eIf, q_eAn, q_eOt, q_eNo, q_eFn, q_eFnO, q_frv, q_fro, q_fre, q_foo, q_foe, q_sSet, q_sSetO, q_lok, q_ler, q_sNx, q_sSeq, q_sIf, q_sRet, q_sRetF, q_sDo, q_sRetO, q_sRaise, q_sFor, q_sUnp, q_sAug, q_sApp, q_sSetI, q_isOwn, q_setI, q_eIsi, q_iAny, q_it1, q_it2, q_it3, q_iR1, q_iZp, q_zp, q_eLc, q_eLc2, q_oNone, q_oSome, q_iOf, q_eSl, q_sTry, q_eXf, q_fn, q_lt, q_le, q_gt, q_ge, q_sub, q_add, q_iadd, q_fdiv, q_mod, q_pow, q_imul, q_mul, q_neg, q_is, q_nis, q_eq, q_ne, entry, e1])]
  rw [seq_nx (e := [some (.own d1), some (.val (tI S)), some (.val (.int n)), some (.val (lT (allV S))), some (.val (.int r1)), none, none, none, none, none]) (by
    rw [q_sSet, take_at (d := d) (n := S.length + 1) (e2 := [some (.own d), some (.val (tI S)), some (.val (.int n)), some (.val (lT (allV S))), none, none, none, none, none, none]) rfl (by simp [q_bnd, q_ok, q_er, q_bad, q_some, q_none, q_eC, q_eV, q_eZ, q_eOp, q_eUn, q_aNil, q_aCons, q_eTup, q_eLst, q_eApp, q_toB, q_bOf, q_tNo, q_tAn, q_tOt, q_eIf, q_eAn, q_eOt, q_eNo, q_eFn, q_eFnO, q_frv, q_fro, q_fre, q_foo, q_foe, q_sSet, q_sSetO, q_lok, q_ler, q_sNx, q_sSeq, q_sIf, q_sRet, q_sRetF, q_sDo, q_sRetO, q_sRaise, q_sFor, q_sUnp, q_sAug, q_sApp, q_sSetI, q_isOwn, q_setI, q_eIsi, q_iAny, q_it1, q_it2, q_it3, q_iR1, q_iZp, q_zp, q_eLc, q_eLc2, q_oNone, q_oSome, q_iOf, q_eSl, q_sTry, q_eXf, q_fn, q_lt, q_le, q_gt, q_ge, q_sub, q_add, q_iadd, q_fdiv, q_mod, q_pow, q_imul, q_mul, q_neg, q_is, q_nis, q_eq, q_ne, entry, lenD]) rfl t1]
    rfl)]
  rw [seq_nx (e := [some (.own d2), some (.val (tI S)), some (.val (.int n)), some (.val (lT (allV S))), some (.val (.int r1)), some (.val o), none, none, none, none]) (by
    rw [q_sSet, q_eOp]
    rw [show ∀ env, eLst (aCons (eC (.int 0)) (aCons (eC (.int 5)) (aCons (eC (.bl true)) (aCons (eC .non) (aCons (eC (.str "1")) (aCons (eTup (aCons (eC (.int 1)) (aNil))) (aCons (eUn negD (eC (.int 1))) (aCons (eOp powD (eC (.int 10)) (eC (.int 20))) (aNil))))))))) env = .ok (.lst [D.int 0, .int 5, .bl true, .non, .str "1", .tup [.int 1], .int (-1), .int 100000000000000000000], env) from fun env => by simp [q_bnd, q_ok, q_er, q_bad, q_some, q_none, q_eC, q_eV, q_eZ, q_eOp, q_eUn, q_aNil, q_aCons, q_eTup, q_eLst, q_eApp, q_toB, q_bOf, q_tNo, q_tAn, q_tOt, q_eIf, q_eAn, q_eOt, q_eNo, q_eFn, q_eFnO, q_frv, q_fro, q_fre, q_foo, q_foe, q_sSet, q_sSetO, q_lok, q_ler, q_sNx, q_sSeq, q_sIf, q_sRet, q_sRetF, q_sDo, q_sRetO, q_sRaise, q_sFor, q_sUnp, q_sAug, q_sApp, q_sSetI, q_isOwn, q_setI, q_eIsi, q_iAny, q_it1, q_it2, q_it3, q_iR1, q_iZp, q_zp, q_eLc, q_eLc2, q_oNone, q_oSome, q_iOf, q_eSl, q_sTry, q_eXf, q_fn, q_lt, q_le, q_gt, q_ge, q_sub, q_add, q_iadd, q_fdiv, q_mod, q_pow, q_imul, q_mul, q_neg, q_is, q_nis, q_eq, q_ne, entry]]
    rw [q_ok]
    simp only
    rw [take_at (d := d1) (n := 8) rfl rfl rfl t2, q_ok]
    simp only
    rw [ho]
    rfl)]
  have a1 : ((S.map D.int).take r1.toNat).length + [o].length ≤ 1000000 := by simp; omega
  have a2 : ((S.map D.int).take r1.toNat ++ [o]).length + ((S.map D.int).drop r1.toNat).length ≤ 1000000 := by simp; omega
  rw [seq_nx (e := [some (.own d2), some (.val (tI S)), some (.val (.int n)), some (.val (lT (allV S))), some (.val (.int r1)), some (.val o), z1, none, none, none]) (by
    rw [q_sFor]
    rw [show iAny (eLst (aCons (eOp addD (eOp addD (eSl (eV 1) (oNone) (oSome (eV 4))) (eTup (aCons (eV 5) (aNil)))) (eSl (eV 1) (oSome (eV 4)) (oNone))) (aCons (eApp listD (aCons (eV 1) (aNil))) (aCons (eC .non) (aCons (eC (.int 3)) (aCons (eOp mulD (eTup (aCons (eC (.int 1)) (aNil))) (eC (.int 31))) (aCons (eC (.str "")) (aCons (eC (.dct [])) (aNil))))))))) [some (.own d2), some (.val (tI S)), some (.val (.int n)), some (.val (lT (allV S))), some (.val (.int r1)), some (.val o), none, none, none, none] = .ok ([.tup ((S.map .int).take r1.toNat ++ [o] ++ (S.map .int).drop r1.toNat), .lst (S.map .int), .non, .int 3, .tup (List.replicate 31 (.int 1)), .str "", .dct []], [some (.own d2), some (.val (tI S)), some (.val (.int n)), some (.val (lT (allV S))), some (.val (.int r1)), some (.val o), none, none, none, none]) from by
      simp [q_bnd, q_ok, q_er, q_bad, q_some, q_none, q_eC, q_eV, q_eZ, q_eOp, q_eUn, q_aNil, q_aCons, q_eTup, q_eLst, q_eApp, q_toB, q_bOf, q_tNo, q_tAn, q_tOt, q_eIf, q_eAn, q_eOt, q_eNo, q_eFn, q_eFnO, q_frv, q_fro, q_fre, q_foo, q_foe, q_sSet, q_sSetO, q_lok, q_ler, q_sNx, q_sSeq, q_sIf, q_sRet, q_sRetF, q_sDo, q_sRetO, q_sRaise, q_sFor, q_sUnp, q_sAug, q_sApp, q_sSetI, q_isOwn, q_setI, q_eIsi, q_iAny, q_it1, q_it2, q_it3, q_iR1, q_iZp, q_zp, q_eLc, q_eLc2, q_oNone, q_oSome, q_iOf, q_eSl, q_sTry, q_eXf, q_fn, q_lt, q_le, q_gt, q_ge, q_sub, q_add, q_iadd, q_fdiv, q_mod, q_pow, q_imul, q_mul, q_neg, q_is, q_nis, q_eq, q_ne, entry, sliceD, c1, c2, q_addT a1, q_addT a2, listD, mulD, -List.append_assoc, -List.reduceReplicate]]
    rw [q_lok]
    exact L1)]
  rw [seq_nx (e := [some (.own d2), some (.val (tI S)), some (.val (.int n)), some (.val (lT (allV S))), some (.val (.int r1)), some (.val o), z1, some (.val (tI (vat S n))), none, none]) (by simp [q_bnd, q_ok, q_er, q_bad, q_some, q_none, q_eC, q_eV, q_eZ, q_eOp, q_eUn, q_aNil, q_aCons, q_eTup, q_eLst, q_eApp, q_toB, q_bOf, q_tNo, q_tAn, q_tOt, q_eIf, q_eAn, q_eOt, q_eNo, q_eFn, q_eFnO, q_frv, q_fro, q_fre, q_foo, q_foe, q_sSet, q_sSetO, q_lok, q_ler, q_sNx, q_sSeq, q_sIf, q_sRet, q_sRetF, q_sDo, q_sRetO, q_sRaise, q_sFor, q_sUnp, q_sAug, q_sApp, q_sSetI, q_isOwn, q_setI, q_eIsi, q_iAny, q_it1, q_it2, q_it3, q_iR1, q_iZp, q_zp, q_eLc, q_eLc2, q_oNone, q_oSome, q_iOf, q_eSl, q_sTry, q_eXf, q_fn, q_lt, q_le, q_gt, q_ge, q_sub, q_add, q_iadd, q_fdiv, q_mod, q_pow, q_imul, q_mul, q_neg, q_is, q_nis, q_eq, q_ne, entry, e5])]
  have hv := vat_small h h0 h1
  have hvl := vat_len S n
  have b1 : ((vat S n).map D.int).length + [D.int 0].length ≤ 1000000 := by simp; omega
  rw [seq_nx (e := [some (.own d2), some (.val (tI S)), some (.val (.int n)), some (.val (lT (allV S))), some (.val (.int r1)), some (.val o), z1, some (.val (tI (vat S n))), some (.val (.lst [.tup ((vat S n).map .int ++ [.int 0]), .lst ((vat S n).map .int), .non, .int 0, .str "", .dct []])), none]) (by simp [q_bnd, q_ok, q_er, q_bad, q_some, q_none, q_eC, q_eV, q_eZ, q_eOp, q_eUn, q_aNil, q_aCons, q_eTup, q_eLst, q_eApp, q_toB, q_bOf, q_tNo, q_tAn, q_tOt, q_eIf, q_eAn, q_eOt, q_eNo, q_eFn, q_eFnO, q_frv, q_fro, q_fre, q_foo, q_foe, q_sSet, q_sSetO, q_lok, q_ler, q_sNx, q_sSeq, q_sIf, q_sRet, q_sRetF, q_sDo, q_sRetO, q_sRaise, q_sFor, q_sUnp, q_sAug, q_sApp, q_sSetI, q_isOwn, q_setI, q_eIsi, q_iAny, q_it1, q_it2, q_it3, q_iR1, q_iZp, q_zp, q_eLc, q_eLc2, q_oNone, q_oSome, q_iOf, q_eSl, q_sTry, q_eXf, q_fn, q_lt, q_le, q_gt, q_ge, q_sub, q_add, q_iadd, q_fdiv, q_mod, q_pow, q_imul, q_mul, q_neg, q_is, q_nis, q_eq, q_ne, entry, q_addT b1, listD])]
  have base : ∀ x ∈ [D.tup ((vat S n).map .int ++ [.int 0]), .lst ((vat S n).map .int), .non, .int 0, .str "", .dct []], BadV S x := by
    intro x hx
    simp only [List.mem_cons, List.not_mem_nil, or_false] at hx
    rcases hx with rfl | rfl | rfl | rfl | rfl | rfl
    · refine badV_len (by simp; omega) ?_ (by simp; omega)
      intro x hx
      rcases List.mem_append.mp hx with hx | hx
      · exact ⟨int_obj x hx, tn_ints (m := 0) hv x hx⟩
      · have : x = .int 0 := by simpa using hx
        rw [this]
        exact ⟨rfl, (tn_int (by decide)).mono (by decide) (by decide)⟩
    · exact badV_list (tn_ints (m := 0) hv) (by simp; omega)
    · exact badV_rest (.inl rfl)
    · exact badV_rest (.inr (.inl rfl))
    · exact badV_rest (.inr (.inr (.inl rfl)))
    · exact badV_rest (.inr (.inr (.inr rfl)))
  by_cases hem : vat S n = []
  · have q := eq_empty (V := vat S n)
    rw [hem] at q
    obtain ⟨z, ht⟩ := tail_ok (a := some (.own d2)) (c := some (.val (.int n))) (e := some (.val (.int r1))) (f := some (.val o)) (g := some (.val (tI (vat S n)))) (i := z1) (j := none) h hl base
    unfold body2 body3 nums at ht
    rw [seq_nx (e := [some (.own d2), some (.val (tI S)), some (.val (.int n)), some (.val (lT (allV S))), some (.val (.int r1)), some (.val o), z1, some (.val (tI (vat S n))), some (.val (.lst [.tup ((vat S n).map .int ++ [.int 0]), .lst ((vat S n).map .int), .non, .int 0, .str "", .dct []])), none]) (by
      rw [q_sIf]
      simp [q_bnd, q_ok, q_er, q_bad, q_some, q_none, q_eC, q_eV, q_eZ, q_eOp, q_eUn, q_aNil, q_aCons, q_eTup, q_eLst, q_eApp, q_toB, q_bOf, q_tNo, q_tAn, q_tOt, q_eIf, q_eAn, q_eOt, q_eNo, q_eFn, q_eFnO, q_frv, q_fro, q_fre, q_foo, q_foe, q_sSet, q_sSetO, q_lok, q_ler, q_sNx, q_sSeq, q_sIf, q_sRet, q_sRetF, q_sDo, q_sRetO, q_sRaise, q_sFor, q_sUnp, q_sAug, q_sApp, q_sSetI, q_isOwn, q_setI, q_eIsi, q_iAny, q_it1, q_it2, q_it3, q_iR1, q_iZp, q_zp, q_eLc, q_eLc2, q_oNone, q_oSome, q_iOf, q_eSl, q_sTry, q_eXf, q_fn, q_lt, q_le, q_gt, q_ge, q_sub, q_add, q_iadd, q_fdiv, q_mod, q_pow, q_imul, q_mul, q_neg, q_is, q_nis, q_eq, q_ne, entry, hem, q])]
    exact ⟨d2, _, ht, p2⟩
  · have hpos : 0 < (vat S n).length := List.length_pos_iff.mpr hem
    have q : eqB (tI (vat S n)) (.tup []) = some false := by rw [eq_empty]; simp [hem]
    obtain ⟨r3, d3, t3, r30, r31, p3⟩ := take_ok (n := (vat S n).length) p2 (by omega) (by omega)
    obtain ⟨r4, d4, t4, r40, r41, p4⟩ := take_ok (n := 8) p3 (by omega) (by omega)
    obtain ⟨s, hs⟩ : ∃ s, S[r3.toNat]? = some s := ⟨_, List.getElem?_eq_getElem (by omega)⟩
    have hsg := h s (List.mem_of_getElem? hs)
    have hsx : idxD (tI S) (.int r3) = some (.int s) := by
      show atI (S.map D.int) r3 = _
      rw [at_nn r30 (by simp; omega), List.getElem?_map, hs]
      rfl
    obtain ⟨o', ho', hom'⟩ := idx_of (xs := [D.int s, .int (-1), .bl true, .bl false, .non, .str "0", .tup [.int 0], .int 100000000000000000000]) (n := 8) rfl r40 (by omega)
    obtain ⟨u1, u2, u3⟩ := odd2 hsg hom'
    have k1 := cut_lo (xs := (vat S n).map D.int) (i := r3) r30 (by simp; omega)
    have k2 := cut_hi (xs := (vat S n).map D.int) (i := r3 + 1) (by omega) (by simp; omega)
    have k3 := cut_hi (xs := (vat S n).map D.int) (i := 1) (by omega) (by simp; omega)
    have hr3 : (r3 + 1).toNat = r3.toNat + 1 := by omega
    rw [hr3] at k2
    have more : ∀ x ∈ [D.tup ((vat S n).map .int ++ [.int 0]), .lst ((vat S n).map .int), .non, .int 0, .str "", .dct []] ++ [D.tup (((vat S n).map .int).take r3.toNat ++ [o'] ++ ((vat S n).map .int).drop (r3.toNat + 1)), .tup (((vat S n).map .int).drop 1)], BadV S x := by
      intro x hx
      rcases List.mem_append.mp hx with hx | hx
      · exact base x hx
      · simp only [List.mem_cons, List.not_mem_nil, or_false] at hx
        rcases hx with rfl | rfl
        · exact badV_odd hvl hl hs hv u1 u2 u3
        · refine badV_len (by simp; omega) ?_ (by simp; omega)
          intro x hx
          have hx := List.mem_of_mem_drop hx
          exact ⟨int_obj x hx, tn_ints (m := 0) hv x hx⟩
    obtain ⟨z, ht⟩ := tail_ok (a := some (.own d4)) (c := some (.val (.int n))) (e := some (.val (.int r3))) (f := some (.val o')) (g := some (.val (tI (vat S n)))) (i := z1) (j := none) h hl more
    unfold body2 body3 nums at ht
    have g1 : (((vat S n).map D.int).take r3.toNat).length + [o'].length ≤ 1000000 := by simp; omega
    have g2 : (((vat S n).map D.int).take r3.toNat ++ [o']).length + (((vat S n).map D.int).drop (r3.toNat + 1)).length ≤ 1000000 := by simp; omega
    have g3 : [D.tup ((vat S n).map .int ++ [.int 0]), .lst ((vat S n).map .int), .non, .int 0, .str "", .dct []].length + [D.tup (((vat S n).map .int).take r3.toNat ++ [o'] ++ ((vat S n).map .int).drop (r3.toNat + 1)), .tup (((vat S n).map .int).drop 1)].length ≤ 1000000 := by simp
    have hlen2 : lenD [tI (vat S n)] = some (.int (vat S n).length) := by simp [lenD]
    rw [seq_nx (e := [some (.own d4), some (.val (tI S)), some (.val (.int n)), some (.val (lT (allV S))), some (.val (.int r3)), some (.val o'), z1, some (.val (tI (vat S n))), some (.val (.lst ([D.tup ((vat S n).map .int ++ [.int 0]), .lst ((vat S n).map .int), .non, .int 0, .str "", .dct []] ++ [D.tup (((vat S n).map .int).take r3.toNat ++ [o'] ++ ((vat S n).map .int).drop (r3.toNat + 1)), .tup (((vat S n).map .int).drop 1)]))), none]) (by
      rw [q_sIf]
      rw [show toB (eOp neD (eV 7) (eTup aNil)) [some (.own d2), some (.val (tI S)), some (.val (.int n)), some (.val (lT (allV S))), some (.val (.int r1)), some (.val o), z1, some (.val (tI (vat S n))), some (.val (.lst [.tup ((vat S n).map .int ++ [.int 0]), .lst ((vat S n).map .int), .non, .int 0, .str "", .dct []])), none] = .ok (true, [some (.own d2), some (.val (tI S)), some (.val (.int n)), some (.val (lT (allV S))), some (.val (.int r1)), some (.val o), z1, some (.val (tI (vat S n))), some (.val (.lst [.tup ((vat S n).map .int ++ [.int 0]), .lst ((vat S n).map .int), .non, .int 0, .str "", .dct []])), none]) from by simp [q_bnd, q_ok, q_er, q_bad, q_some, q_none, q_eC, q_eV, q_eZ, q_eOp, q_eUn, q_aNil, q_aCons, q_eTup, q_eLst, q_eApp, q_toB, q_bOf, q_tNo, q_tAn, q_tOt, q_eIf, q_eAn, q_eOt, q_eNo, q_eFn, q_eFnO, q_frv, q_fro, q_fre, q_foo, q_foe, q_sSet, q_sSetO, q_lok, q_ler, q_sNx, q_sSeq, q_sIf, q_sRet, q_sRetF, q_sDo, q_sRetO, q_sRaise, q_sFor, q_sUnp, q_sAug, q_sApp, q_sSetI, q_isOwn, q_setI, q_eIsi, q_iAny, q_it1, q_it2, q_it3, q_iR1, q_iZp, q_zp, q_eLc, q_eLc2, q_oNone, q_oSome, q_iOf, q_eSl, q_sTry, q_eXf, q_fn, q_lt, q_le, q_gt, q_ge, q_sub, q_add, q_iadd, q_fdiv, q_mod, q_pow, q_imul, q_mul, q_neg, q_is, q_nis, q_eq, q_ne, entry, q]]
      rw [q_lok, if_pos rfl]
      rw [seq_nx (e := [some (.own d3), some (.val (tI S)), some (.val (.int n)), some (.val (lT (allV S))), some (.val (.int r3)), some (.val o), z1, some (.val (tI (vat S n))), some (.val (.lst [.tup ((vat S n).map .int ++ [.int 0]), .lst ((vat S n).map .int), .non, .int 0, .str "", .dct []])), none]) (by
        rw [q_sSet, take_at (d := d2) (n := (vat S n).length) (e2 := [some (.own d2), some (.val (tI S)), some (.val (.int n)), some (.val (lT (allV S))), some (.val (.int r1)), some (.val o), z1, some (.val (tI (vat S n))), some (.val (.lst [.tup ((vat S n).map .int ++ [.int 0]), .lst ((vat S n).map .int), .non, .int 0, .str "", .dct []])), none]) rfl (by simp [q_bnd, q_ok, q_er, q_bad, q_some, q_none, q_eC, q_eV, q_eZ, q_eOp, q_eUn, q_aNil, q_aCons, q_eTup, q_eLst, q_eApp, q_toB, q_bOf, q_tNo, q_tAn, q_tOt, q_eIf, q_eAn, q_eOt, q_eNo, q_eFn, q_eFnO, q_frv, q_fro, q_fre, q_foo, q_foe, q_sSet, q_sSetO, q_lok, q_ler, q_sNx, q_sSeq, q_sIf, q_sRet, q_sRetF, q_sDo, q_sRetO, q_sRaise, q_sFor, q_sUnp, q_sAug, q_sApp, q_sSetI, q_isOwn, q_setI, q_eIsi, q_iAny, q_it1, q_it2, q_it3, q_iR1, q_iZp, q_zp, q_eLc, q_eLc2, q_oNone, q_oSome, q_iOf, q_eSl, q_sTry, q_eXf, q_fn, q_lt, q_le, q_gt, q_ge, q_sub, q_add, q_iadd, q_fdiv, q_mod, q_pow, q_imul, q_mul, q_neg, q_is, q_nis, q_eq, q_ne, entry, hlen2]) rfl t3]
        rfl)]
      rw [seq_nx (e := [some (.own d4), some (.val (tI S)), some (.val (.int n)), some (.val (lT (allV S))), some (.val (.int r3)), some (.val o'), z1, some (.val (tI (vat S n))), some (.val (.lst [.tup ((vat S n).map .int ++ [.int 0]), .lst ((vat S n).map .int), .non, .int 0, .str "", .dct []])), none]) (by
        rw [q_sSet, q_eOp]
        rw [show eLst (aCons (eOp idxD (eV 1) (eV 4)) (aCons (eUn negD (eC (.int 1))) (aCons (eC (.bl true)) (aCons (eC (.bl false)) (aCons (eC .non) (aCons (eC (.str "0")) (aCons (eTup (aCons (eC (.int 0)) (aNil))) (aCons (eOp powD (eC (.int 10)) (eC (.int 20))) (aNil))))))))) [some (.own d3), some (.val (tI S)), some (.val (.int n)), some (.val (lT (allV S))), some (.val (.int r3)), some (.val o), z1, some (.val (tI (vat S n))), some (.val (.lst [.tup ((vat S n).map .int ++ [.int 0]), .lst ((vat S n).map .int), .non, .int 0, .str "", .dct []])), none] = .ok (.lst [D.int s, .int (-1), .bl true, .bl false, .non, .str "0", .tup [.int 0], .int 100000000000000000000], [some (.own d3), some (.val (tI S)), some (.val (.int n)), some (.val (lT (allV S))), some (.val (.int r3)), some (.val o), z1, some (.val (tI (vat S n))), some (.val (.lst [.tup ((vat S n).map .int ++ [.int 0]), .lst ((vat S n).map .int), .non, .int 0, .str "", .dct []])), none]) from by simp [q_bnd, q_ok, q_er, q_bad, q_some, q_none, q_eC, q_eV, q_eZ, q_eOp, q_eUn, q_aNil, q_aCons, q_eTup, q_eLst, q_eApp, q_toB, q_bOf, q_tNo, q_tAn, q_tOt, q_eIf, q_eAn, q_eOt, q_eNo, q_eFn, q_eFnO, q_frv, q_fro, q_fre, q_foo, q_foe, q_sSet, q_sSetO, q_lok, q_ler, q_sNx, q_sSeq, q_sIf, q_sRet, q_sRetF, q_sDo, q_sRetO, q_sRaise, q_sFor, q_sUnp, q_sAug, q_sApp, q_sSetI, q_isOwn, q_setI, q_eIsi, q_iAny, q_it1, q_it2, q_it3, q_iR1, q_iZp, q_zp, q_eLc, q_eLc2, q_oNone, q_oSome, q_iOf, q_eSl, q_sTry, q_eXf, q_fn, q_lt, q_le, q_gt, q_ge, q_sub, q_add, q_iadd, q_fdiv, q_mod, q_pow, q_imul, q_mul, q_neg, q_is, q_nis, q_eq, q_ne, entry, hsx]]
        rw [q_ok]
        simp only
        rw [take_at (d := d3) (n := 8) rfl rfl rfl t4, q_ok]
        simp only
        rw [ho']
        rfl)]
      simp [q_bnd, q_ok, q_er, q_bad, q_some, q_none, q_eC, q_eV, q_eZ, q_eOp, q_eUn, q_aNil, q_aCons, q_eTup, q_eLst, q_eApp, q_toB, q_bOf, q_tNo, q_tAn, q_tOt, q_eIf, q_eAn, q_eOt, q_eNo, q_eFn, q_eFnO, q_frv, q_fro, q_fre, q_foo, q_foe, q_sSet, q_sSetO, q_lok, q_ler, q_sNx, q_sSeq, q_sIf, q_sRet, q_sRetF, q_sDo, q_sRetO, q_sRaise, q_sFor, q_sUnp, q_sAug, q_sApp, q_sSetI, q_isOwn, q_setI, q_eIsi, q_iAny, q_it1, q_it2, q_it3, q_iR1, q_iZp, q_zp, q_eLc, q_eLc2, q_oNone, q_oSome, q_iOf, q_eSl, q_sTry, q_eXf, q_fn, q_lt, q_le, q_gt, q_ge, q_sub, q_add, q_iadd, q_fdiv, q_mod, q_pow, q_imul, q_mul, q_neg, q_is, q_nis, q_eq, q_ne, entry, sliceD, k1, k2, k3, q_addT g1, q_addT g2, q_addL g3, -List.append_assoc, -List.drop_one])]
    exact ⟨d4, _, ht, p4⟩
end K01
end

section
set_option Elab.async false
set_option linter.all false
set_option maxRecDepth 100000
set_option maxHeartbeats 2000000
namespace K01
open PySem L2 PyProof.Rows PySem.Spec DL
theorem lc_ex {t : TgM} {vs : List Nat} {f : EM D} (R : DEnv → Prop) (P : D → Prop) : ∀ (ds : List D) (env : DEnv) (acc : List D), R env → acc.length + ds.length ≤ 1000000 →
    (∀ d env, d ∈ ds → R env → ∃ e1 y e2, t d env = some e1 ∧ f e1 = .ok (y, e2) ∧ P y ∧ R (wipeE e2 vs)) →
    ∃ ys e, lcLoop t vs tYs f ds env acc = .ok (acc ++ ys, e) ∧ R e ∧ ys.length = ds.length ∧ ∀ y ∈ ys, P y
  | [], env, acc, h, _, _ => ⟨[], env, by simp [lcLoop], h, rfl, by simp⟩
  | d :: ds, env, acc, h, hl, st => by
    obtain ⟨e1, y, e2, h1, h2, h3, h4⟩ := st d env List.mem_cons_self h
    rw [List.length_cons] at hl
    obtain ⟨ys, e, h5, h6, h7, h8⟩ := lc_ex R P ds (wipeE e2 vs) (acc ++ [y]) h4 (by simp; omega) fun d' env hd => st d' env (List.mem_cons_of_mem _ hd)
    refine ⟨y :: ys, e, ?_, h6, by simp [h7], ?_⟩
    · unfold lcLoop
      rw [h1]
      simp only [tYs]
      rw [h2]
      simp only
      rw [if_pos (by omega), h5]
      simp
    · intro z hz
      rcases List.mem_cons.mp hz with rfl | hz
      · exact h3
      · exact h8 z hz
theorem range_mem {d : D} {n : Nat} (h : d ∈ rangeL 0 n) : ∃ i : Int, d = .int i ∧ 0 ≤ i ∧ i < n := by
  rw [rangeL_map] at h
  obtain ⟨i, hi, rfl⟩ := List.mem_map.mp h
  rw [List.mem_range] at hi
  exact ⟨i, by simp, by omega, by omega⟩
theorem ints_of {ys : List D} (h : ∀ y ∈ ys, ∃ s : Int, y = .int s ∧ 1 ≤ s ∧ s ≤ 4) : ∃ S : List Int, ys = S.map .int ∧ Good S := by
  induction ys with
  | nil => exact ⟨[], rfl, fun s hs => by cases hs⟩
  | cons y ys ih =>
    obtain ⟨s, rfl, h1, h2⟩ := h y List.mem_cons_self
    obtain ⟨S, rfl, hS⟩ := ih fun z hz => h z (List.mem_cons_of_mem _ hz)
    refine ⟨s :: S, rfl, ?_⟩
    intro x hx
    rcases List.mem_cons.mp hx with rfl | hx
    · exact ⟨h1, h2⟩
    · exact hS x hx
def lawBody : SM := sSeq (sSetO 2 (eFnO F__law_pool [] (aCons (eV 0) (aCons (eV 1) (aNil)))))
    (sSeq (sSet 3 (eApp tupleD (aCons (eLc (iR1 (aCons (eFnT F__law_take 2 (aCons (eC (.int 6)) (aNil))) (aNil))) [5] (tgN 5) (tYs) (eOp addD (eC (.int 1)) (eFnT F__law_take 2 (aCons (eC (.int 4)) (aNil))))) (aNil))))
    (sSeq (sSet 4 (eFnT F__law_take 2 (aCons (eApp lenD (aCons (eFn F__law_worths [] (aCons (eV 3) (aNil))) (aNil))) (aNil))))
    (sIf (tOt (tNo (toB (eFn F__law_good_right [] (aCons (eV 3) (aCons (eV 4) (aNil)))))) (tNo (toB (eFnT F__law_bad_right 2 (aCons (eV 3) (aCons (eV 4) (aNil))))))) (sRet (eC (.bl false))) (sNx))))
theorem lawBody_ok {ns : List Int} {k : Int} {c2 c3 c4 : Option Cell} (h0 : 0 ≤ k) (h1 : k < 1000) : ∃ c2' c3' c4', lawBody [some (.val (scrOf ns)), some (.val (.int k)), c2, c3, c4, none] = .nx [some (.val (scrOf ns)), some (.val (.int k)), c2', c3', c4', none] := by
  obtain ⟨p, hp, ok⟩ := pool_ok (ns := ns) h0 h1
  obtain ⟨r, p1, t1, r0, r1, ok1⟩ := take_ok (n := 6) ok (by omega) (by omega)
  have hr := q_r1 (j := r) r0 (by omega)
  obtain ⟨ys, e, hlc, ⟨p2, ok2, rfl⟩, hlen, hP⟩ := lc_ex (t := tgN 5) (vs := [5]) (f := eOp addD (eC (.int 1)) (eFnT F__law_take 2 (aCons (eC (.int 4)) (aNil)))) (fun e => ∃ x, PoolOk x ∧ e = [some (.val (scrOf ns)), some (.val (.int k)), some (.own x), c3, c4, none]) (fun y => ∃ s : Int, y = .int s ∧ 1 ≤ s ∧ s ≤ 4) (rangeL 0 r.toNat) [some (.val (scrOf ns)), some (.val (.int k)), some (.own p1), c3, c4, none] [] ⟨p1, ok1, rfl⟩ (by rw [rangeL_len]; simp; omega) (by
    rintro d env hd ⟨x, okx, rfl⟩
    obtain ⟨s, x', tx, s0, s1, okx'⟩ := take_ok (n := 4) okx (by omega) (by omega)
    refine ⟨_, .int (1 + s), [some (.val (scrOf ns)), some (.val (.int k)), some (.own x'), c3, c4, some (.val d)], rfl, ?_, ⟨_, rfl, by omega, by omega⟩, x', okx', rfl⟩
    rw [q_eOp, q_eC, q_ok]
    simp only
    rw [take_at (d := x) (n := 4) rfl rfl rfl tx, q_ok]
    rfl)
  obtain ⟨S, rfl, hS⟩ := ints_of hP
  rw [rangeL_len, List.length_map] at hlen
  have hl : S.length ≤ 5 := by omega
  have hpr := pr_pos hS
  have hpr2 := pr_le5 hS hl
  have ew := worths hS (by omega) hpr2
  obtain ⟨n, p3, t3, n0, n1, ok3⟩ := take_ok (n := pr S) ok2 (by omega) (by omega)
  have eg := good_right hS hl n0 n1
  obtain ⟨p4, eb, ok4⟩ := bad_right hS hl n0 n1 ok3
  have hln : lenD [lT (allV S)] = some (.int (pr S)) := by
    simp only [lenD, lT, List.length_map]
    rw [allV_len hS]
  refine ⟨some (.own p4), some (.val (tI S)), some (.val (.int n)), ?_⟩
  unfold lawBody
  rw [seq_nx (e := [some (.val (scrOf ns)), some (.val (.int k)), some (.own p), c3, c4, none]) (by simp [q_bnd, q_ok, q_er, q_bad, q_some, q_none, q_eC, q_eV, q_eZ, q_eOp, q_eUn, q_aNil, q_aCons, q_eTup, q_eLst, q_eApp, q_toB, q_bOf, q_tNo, q_tAn, q_tOt, q_eIf, q_eAn, q_eOt, q_eNo, q_eFn, q_eFnO, q_frv, q_fro, q_fre, q_foo, q_foe, q_sSet, q_sSetO, q_lok, q_ler, q_sNx, q_sSeq, q_sIf, q_sRet, q_sRetF, q_sDo, q_sRetO, q_sRaise, q_sFor, q_sUnp, q_sAug, q_sApp, q_sSetI, q_isOwn, q_setI, q_eIsi, q_iAny, q_it1, q_it2, q_it3, q_iR1, q_iZp, q_zp, q_eLc, q_eLc2, q_oNone, q_oSome, q_iOf, q_eSl, q_sTry, q_eXf, q_fn, q_lt, q_le, q_gt, q_ge, q_sub, q_add, q_iadd, q_fdiv, q_mod, q_pow, q_imul, q_mul, q_neg, q_is, q_nis, q_eq, q_ne, entry, hp])]
  rw [seq_nx (e := [some (.val (scrOf ns)), some (.val (.int k)), some (.own p2), some (.val (tI S)), c4, none]) (by
    rw [q_sSet, q_eApp, q_aCons, q_eLc, q_iR1, q_aCons, take_at (d := p) (n := 6) rfl rfl rfl t1]
    simp only [List.nil_append] at hlc
    simp [q_bnd, q_ok, q_er, q_bad, q_some, q_none, q_eC, q_eV, q_eZ, q_eOp, q_eUn, q_aNil, q_aCons, q_eTup, q_eLst, q_eApp, q_toB, q_bOf, q_tNo, q_tAn, q_tOt, q_eIf, q_eAn, q_eOt, q_eNo, q_eFn, q_eFnO, q_frv, q_fro, q_fre, q_foo, q_foe, q_sSet, q_sSetO, q_lok, q_ler, q_sNx, q_sSeq, q_sIf, q_sRet, q_sRetF, q_sDo, q_sRetO, q_sRaise, q_sFor, q_sUnp, q_sAug, q_sApp, q_sSetI, q_isOwn, q_setI, q_eIsi, q_iAny, q_it1, q_it2, q_it3, q_iR1, q_iZp, q_zp, q_eLc, q_eLc2, q_oNone, q_oSome, q_iOf, q_eSl, q_sTry, q_eXf, q_fn, q_lt, q_le, q_gt, q_ge, q_sub, q_add, q_iadd, q_fdiv, q_mod, q_pow, q_imul, q_mul, q_neg, q_is, q_nis, q_eq, q_ne, entry, hr, wipeE, hlc, restE, keepV, tupleD])]
  rw [seq_nx (e := [some (.val (scrOf ns)), some (.val (.int k)), some (.own p3), some (.val (tI S)), some (.val (.int n)), none]) (by
    rw [q_sSet, take_at (d := p2) (n := pr S) (e2 := [some (.val (scrOf ns)), some (.val (.int k)), some (.own p2), some (.val (tI S)), c4, none]) rfl (by simp [q_bnd, q_ok, q_er, q_bad, q_some, q_none, q_eC, q_eV, q_eZ, q_eOp, q_eUn, q_aNil, q_aCons, q_eTup, q_eLst, q_eApp, q_toB, q_bOf, q_tNo, q_tAn, q_tOt, q_eIf, q_eAn, q_eOt, q_eNo, q_eFn, q_eFnO, q_frv, q_fro, q_fre, q_foo, q_foe, q_sSet, q_sSetO, q_lok, q_ler, q_sNx, q_sSeq, q_sIf, q_sRet, q_sRetF, q_sDo, q_sRetO, q_sRaise, q_sFor, q_sUnp, q_sAug, q_sApp, q_sSetI, q_isOwn, q_setI, q_eIsi, q_iAny, q_it1, q_it2, q_it3, q_iR1, q_iZp, q_zp, q_eLc, q_eLc2, q_oNone, q_oSome, q_iOf, q_eSl, q_sTry, q_eXf, q_fn, q_lt, q_le, q_gt, q_ge, q_sub, q_add, q_iadd, q_fdiv, q_mod, q_pow, q_imul, q_mul, q_neg, q_is, q_nis, q_eq, q_ne, entry, ew, hln]) rfl t3]
    rfl)]
  have hb := q_eFnT (Φ := F__law_bad_right) (i := 2) (env := [some (.val (scrOf ns)), some (.val (.int k)), some (.own p3), some (.val (tI S)), some (.val (.int n)), none]) (r := aCons (eV 3) (aCons (eV 4) (aNil))) (ds := [tI S, .int n]) (e2 := [some (.val (scrOf ns)), some (.val (.int k)), some (.own p3), some (.val (tI S)), some (.val (.int n)), none]) rfl rfl rfl eb
  simp [q_bnd, q_ok, q_er, q_bad, q_some, q_none, q_eC, q_eV, q_eZ, q_eOp, q_eUn, q_aNil, q_aCons, q_eTup, q_eLst, q_eApp, q_toB, q_bOf, q_tNo, q_tAn, q_tOt, q_eIf, q_eAn, q_eOt, q_eNo, q_eFn, q_eFnO, q_frv, q_fro, q_fre, q_foo, q_foe, q_sSet, q_sSetO, q_lok, q_ler, q_sNx, q_sSeq, q_sIf, q_sRet, q_sRetF, q_sDo, q_sRetO, q_sRaise, q_sFor, q_sUnp, q_sAug, q_sApp, q_sSetI, q_isOwn, q_setI, q_eIsi, q_iAny, q_it1, q_it2, q_it3, q_iR1, q_iZp, q_zp, q_eLc, q_eLc2, q_oNone, q_oSome, q_iOf, q_eSl, q_sTry, q_eXf, q_fn, q_lt, q_le, q_gt, q_ge, q_sub, q_add, q_iadd, q_fdiv, q_mod, q_pow, q_imul, q_mul, q_neg, q_is, q_nis, q_eq, q_ne, entry, eg, hb]
theorem cl0 {a b : D} : callee 0 a b = F_size_product [a] := by
  unfold callee
  rw [if_pos rfl]
theorem cl1 {a b : D} : callee 1 a b = F_index_of [a, b] := by
  unfold callee
  rw [if_neg (by decide), if_pos rfl]
theorem cl2 {a b : D} : callee 2 a b = F_values_at [a, b] := by
  unfold callee
  rw [if_neg (by decide), if_neg (by decide), if_pos rfl]
theorem cl3 {a b : D} : callee 3 a b = F_all_values [a] := by
  unfold callee
  rw [if_neg (by decide), if_neg (by decide), if_neg (by decide)]
theorem mulT {a n : Int} (h : 2 ≤ n ∧ n ≤ 1000) : mulD (.tup [.int a]) (.int n) = some (tI (List.replicate n.toNat a)) := by
  simp only [mulD]
  rw [if_pos ⟨h.1, h.2, by simp, by simp⟩]
  simp
theorem good_rep {n : Nat} {a : Int} (h : 1 ≤ a ∧ a ≤ 4) : Good (List.replicate n a) := by
  intro s hs
  rw [(List.mem_replicate.mp hs).2]
  exact h
end K01
end

section
set_option Elab.async false
set_option linter.all false
set_option maxRecDepth 100000
set_option maxHeartbeats 2000000
namespace K01
open PySem L2 PyProof.Rows PySem.Spec DL
theorem law_true (ns : List Int) (h : ns.length ≤ 63) (hb : ∀ z ∈ ns, Builtin.Int.intBits z ≤ 1048576) : F_law [scrOf ns] = .ok (.val (.bl true)) := by
  obtain ⟨m, hm, m0, m1⟩ : ∃ m : Int, maxD [.int 1, .int (if (ns.length : Int) < 12 then (ns.length : Int) else 12)] = some (.int m) ∧ 0 ≤ m ∧ m < 100 := by
    refine ⟨_, rfl, ?_, ?_⟩
    · split <;> split <;> omega
    · split <;> split <;> omega
  have hr := q_r1 (j := m) m0 (by omega)
  have hn : lenD [scrOf ns] = some (.int ns.length) := by simp [scrOf, lenD]
  obtain ⟨w, hl, c1, c2, c3, c4, rfl⟩ := loop_fold (t := tgN 1) (b := lawBody) (fun (_ : Unit) env => ∃ c1 c2 c3 c4, env = [some (.val (scrOf ns)), c1, c2, c3, c4, none]) (fun _ _ => ()) (rangeL 0 m.toNat) () [some (.val (scrOf ns)), none, none, none, none, none] ⟨none, none, none, none, rfl⟩ (by
    rintro u x env hx ⟨c1, c2, c3, c4, rfl⟩
    obtain ⟨i, rfl, i0, i1⟩ := range_mem hx
    obtain ⟨c2', c3', c4', e⟩ := lawBody_ok (ns := ns) (k := i) (c2 := c2) (c3 := c3) (c4 := c4) i0 (by omega)
    exact ⟨_, _, rfl, e, _, _, _, _, rfl⟩)
  unfold lawBody at hl
  have x1 : mulD (.tup [.int 4]) (.int 6) = some (tI (List.replicate 6 4)) := mulT (by decide)
  have x2 : mulD (.tup [.int 4]) (.int 30) = some (tI (List.replicate 30 4)) := mulT (by decide)
  have x3 : mulD (.tup [.int 3]) (.int 30) = some (tI (List.replicate 30 3)) := mulT (by decide)
  have x4 : mulD (.tup [.int 1]) (.int 30) = some (tI (List.replicate 30 1)) := mulT (by decide)
  have x5 : mulD (.tup [.int 0]) (.int 30) = some (tI (List.replicate 30 0)) := mulT (by decide)
  have g6 := good_rep (n := 6) (a := 4) (by decide)
  have g30 := good_rep (n := 30) (a := 4) (by decide)
  have g1 := good_rep (n := 30) (a := 1) (by decide)
  have p6 : pr (List.replicate 6 4) = 4096 := by decide +kernel
  have p30 : pr (List.replicate 30 4) = 1152921504606846976 := by decide +kernel
  have p1 : pr (List.replicate 30 1) = 1 := by decide +kernel
  have v30 : vat (List.replicate 30 4) 1152921504606846975 = List.replicate 30 3 := by decide +kernel
  have a1 : allV (List.replicate 30 1) = [List.replicate 30 0] := by decide +kernel
  have f1 := told_wide (b := .non) (all_values_wide g6 (by decide) (by rw [p6]; decide))
  rw [p6] at f1
  have f2 := told_val (w := 0) (b := .non) (.inl rfl) (cl0.trans (size_product g30 (by decide)))
  rw [p30] at f2
  have f3 := told_val (w := 2) (.inr (.inr (.inl rfl))) (cl2.trans (values_at (n := 1152921504606846975) g30 (by decide) (by decide) (by rw [p30]; decide)))
  rw [v30] at f3
  have hv := vat_values (n := 1152921504606846975) g30 (by decide) (by rw [p30]; decide)
  rw [v30] at hv
  have hi := idx_vat (n := 1152921504606846975) (r := 0) g30 (by decide) (by rw [p30]; decide)
  rw [v30] at hi
  have f4 := told_val (w := 1) (.inr (.inl rfl)) (cl1.trans (index_of g30 (by decide) hv))
  rw [hi] at f4
  have f5 := told_own (w := 3) (b := .non) (.inr (.inr (.inr rfl))) (cl3.trans (all_values g1 (by decide) (by rw [p1]; decide)))
  rw [a1] at f5
  have f6 := is_sizes (plain_tI (List.replicate 30 1))
  rw [sizesB_tI g1 (by decide)] at f6
  have q1 := (eo_pair (s := "wide") (strOk_of _) (eo_int 4096 0)).ok (by decide)
  have q2 := (eo_pair strTold (eo_int 1152921504606846976 0)).ok (by decide)
  have q3 := (eo_pair strTold (eo_tI (List.replicate 30 3) 0)).ok (by decide)
  have q4 := (eo_int 1152921504606846975 0).ok (by decide)
  have q5 := (eo_pair strTold (eo_lT [List.replicate 30 0] 0)).ok (by decide)
  rw [show lT [List.replicate 30 0] = .lst [tI (List.replicate 30 0)] from rfl] at f5 q5
  generalize tI (List.replicate 6 4) = A6 at x1 f1
  generalize tI (List.replicate 30 4) = A30 at x2 f2 f3 f4
  generalize tI (List.replicate 30 3) = B30 at x3 f3 f4 q3
  generalize tI (List.replicate 30 1) = C30 at x4 f5 f6
  generalize tI (List.replicate 30 0) = D30 at x5 f5 q5
  rw [p30, Int.zero_mul, Int.zero_add] at f4
  unfold F_law
  rw [q_fn (ds := [scrOf ns]) (m := 1) rfl]
  unfold m_law
  rw [show entry 6 [scrOf ns] = [some (.val (scrOf ns)), none, none, none, none, none] from rfl]
  rw [seq_nx (e := [some (.val (scrOf ns)), c1, c2, c3, c4, none]) (by
    rw [q_sFor]
    rw [show iR1 (aCons (eApp maxD (aCons (eC (.int 1)) (aCons (eApp minD (aCons (eC (.int 12)) (aCons (eApp lenD (aCons (eV 0) (aNil))) (aNil)))) (aNil)))) (aNil)) [some (.val (scrOf ns)), none, none, none, none, none] = .ok (rangeL 0 m.toNat, [some (.val (scrOf ns)), none, none, none, none, none]) from by
      simp [q_bnd, q_ok, q_er, q_bad, q_some, q_none, q_eC, q_eV, q_eZ, q_eOp, q_eUn, q_aNil, q_aCons, q_eTup, q_eLst, q_eApp, q_toB, q_bOf, q_tNo, q_tAn, q_tOt, q_eIf, q_eAn, q_eOt, q_eNo, q_eFn, q_eFnO, q_frv, q_fro, q_fre, q_foo, q_foe, q_sSet, q_sSetO, q_lok, q_ler, q_sNx, q_sSeq, q_sIf, q_sRet, q_sRetF, q_sDo, q_sRetO, q_sRaise, q_sFor, q_sUnp, q_sAug, q_sApp, q_sSetI, q_isOwn, q_setI, q_eIsi, q_iAny, q_it1, q_it2, q_it3, q_iR1, q_iZp, q_zp, q_eLc, q_eLc2, q_oNone, q_oSome, q_iOf, q_eSl, q_sTry, q_eXf, q_fn, q_lt, q_le, q_gt, q_ge, q_sub, q_add, q_iadd, q_fdiv, q_mod, q_pow, q_imul, q_mul, q_neg, q_is, q_nis, q_eq, q_ne, entry, hn, minD, hm, hr]]
    rw [q_lok]
    exact hl)]
  simp [q_bnd, q_ok, q_er, q_bad, q_some, q_none, q_eC, q_eV, q_eZ, q_eOp, q_eUn, q_aNil, q_aCons, q_eTup, q_eLst, q_eApp, q_toB, q_bOf, q_tNo, q_tAn, q_tOt, q_eIf, q_eAn, q_eOt, q_eNo, q_eFn, q_eFnO, q_frv, q_fro, q_fre, q_foo, q_foe, q_sSet, q_sSetO, q_lok, q_ler, q_sNx, q_sSeq, q_sIf, q_sRet, q_sRetF, q_sDo, q_sRetO, q_sRaise, q_sFor, q_sUnp, q_sAug, q_sApp, q_sSetI, q_isOwn, q_setI, q_eIsi, q_iAny, q_it1, q_it2, q_it3, q_iR1, q_iZp, q_zp, q_eLc, q_eLc2, q_oNone, q_oSome, q_iOf, q_eSl, q_sTry, q_eXf, q_fn, q_lt, q_le, q_gt, q_ge, q_sub, q_add, q_iadd, q_fdiv, q_mod, q_pow, q_imul, q_mul, q_neg, q_is, q_nis, q_eq, q_ne, entry, x1, x2, x3, x4, x5, f1, f2, f3, f4, f5, f6, q1, q2, q3, q4, q5, idxD, atI, ixN]
end K01
end

section
set_option Elab.async false
set_option linter.all false
open PySem PySem.W PyProof.Rows
set_option maxRecDepth 100000 in
set_option maxHeartbeats 0 in
theorem PySem.Challenge.cw_lettersback_k01_sizes_and_values_holds : PySem.Challenge.rw_lettersback_k01_sizes_and_values.Holds := by
  w_on; o_law; k_head; (case hw => w_witness2)
  k_fill
  refine DL.walk_ofD (l := PySem.Challenge.rw_lettersback_k01_sizes_and_values) (k := 9) (Φ := K01.F_law) rfl (by decide) rfl ⟨rfl, by decide, by decide⟩ (fun w h Y => PySem.W.kIn_of Y) ?F ?S
  case F =>
    intro w mg h KX G
    refine' K01.all_mk KX G ?g_is_integer ?g_is_size ?g_is_sizes ?g_check_sizes ?g_product ?g_size_product ?g_is_values ?g_check_values ?g_index_of ?g_values_at ?g_check_product ?g_all_values ?g__law_pool ?g__law_take ?g__law_worths ?g__law_told ?g__law_good_right ?g__law_bad_right ?g_law ?y0_InvalidSizes ?y0_InvalidValues ?y0_InvalidNumber ?y0_TooWide ?x0_NetworkError ?l_is_integer ?l_is_size ?l_is_sizes ?l_check_sizes ?l_product ?l_size_product ?l_is_values ?l_check_values ?l_index_of ?l_values_at ?l_check_product ?l_all_values ?l__law_pool ?l__law_take ?l__law_worths ?l__law_told ?l__law_good_right ?l__law_bad_right ?l_law ?z0_InvalidSizes ?l_iInvalidSizes ?z0_InvalidValues ?l_iInvalidValues ?z0_InvalidNumber ?l_iInvalidNumber ?z0_TooWide ?l_iTooWide ?n_abs ?n_all ?n_bool ?n_divmod ?n_int ?n_isinstance ?n_len ?n_list ?n_max ?n_min ?n_range ?n_repr ?n_tuple ?n_zip ?c_MAX_PRODUCT ?c_MAX_SIZE ?c_MAX_WIRES ?d_is_integer ?k_is_integer ?t_is_integer ?d_is_size ?k_is_size ?d_is_sizes ?k_is_sizes ?d_check_sizes ?k_check_sizes ?d_product ?k_product ?d_size_product ?k_size_product ?d_is_values ?k_is_values ?d_check_values ?k_check_values ?d_index_of ?k_index_of ?d_values_at ?k_values_at ?d_check_product ?k_check_product ?d_all_values ?k_all_values ?d__law_pool ?k__law_pool ?d__law_take ?k__law_take ?d__law_worths ?k__law_worths ?d__law_told ?k__law_told ?d__law_good_right ?k__law_good_right ?d__law_bad_right ?k__law_bad_right ?d_law ?k_law ?x1_NetworkError ?x2_NetworkError ?x3_NetworkError ?y1_InvalidSizes ?y2_InvalidSizes ?y3_InvalidSizes ?y4_InvalidSizes ?y5_InvalidSizes ?y6_InvalidSizes ?y7_InvalidSizes ?y8_InvalidSizes ?y9_InvalidSizes ?z1_InvalidSizes ?d_iInvalidSizes ?k_iInvalidSizes ?w0_InvalidSizes ?s_InvalidSizes_InvalidSizes ?s_InvalidSizes_InvalidValues ?s_InvalidSizes_InvalidNumber ?s_InvalidSizes_TooWide ?y1_InvalidValues ?y2_InvalidValues ?y3_InvalidValues ?y4_InvalidValues ?y5_InvalidValues ?y6_InvalidValues ?y7_InvalidValues ?y8_InvalidValues ?y9_InvalidValues ?z1_InvalidValues ?d_iInvalidValues ?k_iInvalidValues ?w0_InvalidValues ?s_InvalidValues_InvalidSizes ?s_InvalidValues_InvalidValues ?s_InvalidValues_InvalidNumber ?s_InvalidValues_TooWide ?y1_InvalidNumber ?y2_InvalidNumber ?y3_InvalidNumber ?y4_InvalidNumber ?y5_InvalidNumber ?y6_InvalidNumber ?y7_InvalidNumber ?y8_InvalidNumber ?y9_InvalidNumber ?z1_InvalidNumber ?d_iInvalidNumber ?k_iInvalidNumber ?w0_InvalidNumber ?s_InvalidNumber_InvalidSizes ?s_InvalidNumber_InvalidValues ?s_InvalidNumber_InvalidNumber ?s_InvalidNumber_TooWide ?y1_TooWide ?y2_TooWide ?y3_TooWide ?y4_TooWide ?y5_TooWide ?y6_TooWide ?y7_TooWide ?y8_TooWide ?y9_TooWide ?z1_TooWide ?d_iTooWide ?k_iTooWide ?w0_TooWide ?s_TooWide_InvalidSizes ?s_TooWide_InvalidValues ?s_TooWide_InvalidNumber ?s_TooWide_TooWide
    (case g_is_integer => k_is); (case g_is_size => k_is); (case g_is_sizes => k_is); (case g_check_sizes => k_is); (case g_product => k_is); (case g_size_product => k_is); (case g_is_values => k_is); (case g_check_values => k_is); (case g_index_of => k_is); (case g_values_at => k_is); (case g_check_product => k_is); (case g_all_values => k_is); (case g__law_pool => k_is); (case g__law_take => k_is); (case g__law_worths => k_is); (case g__law_told => k_is); (case g__law_good_right => k_is); (case g__law_bad_right => k_is); (case g_law => k_is); (case y0_InvalidSizes => k_is); (case y0_InvalidValues => k_is); (case y0_InvalidNumber => k_is); (case y0_TooWide => k_is); (case x0_NetworkError => k_is); (case l_is_integer => k_is); (case l_is_size => k_is); (case l_is_sizes => k_is); (case l_check_sizes => k_is); (case l_product => k_is); (case l_size_product => k_is); (case l_is_values => k_is); (case l_check_values => k_is); (case l_index_of => k_is); (case l_values_at => k_is); (case l_check_product => k_is); (case l_all_values => k_is); (case l__law_pool => k_is); (case l__law_take => k_is); (case l__law_worths => k_is); (case l__law_told => k_is); (case l__law_good_right => k_is); (case l__law_bad_right => k_is); (case l_law => k_is); (case z0_InvalidSizes => k_is); (case l_iInvalidSizes => k_is); (case z0_InvalidValues => k_is); (case l_iInvalidValues => k_is); (case z0_InvalidNumber => k_is); (case l_iInvalidNumber => k_is); (case z0_TooWide => k_is); (case l_iTooWide => k_is); (case n_abs => k_is); (case n_all => k_is); (case n_bool => k_is); (case n_divmod => k_is); (case n_int => k_is); (case n_isinstance => k_is); (case n_len => k_is); (case n_list => k_is); (case n_max => k_is); (case n_min => k_is); (case n_range => k_is); (case n_repr => k_is); (case n_tuple => k_is); (case n_zip => k_is); (case c_MAX_PRODUCT => k_is); (case c_MAX_SIZE => k_is); (case c_MAX_WIRES => k_is); (case d_is_integer => k_is); (case k_is_integer => k_is); (case t_is_integer => k_is); (case d_is_size => k_is); (case k_is_size => k_is); (case d_is_sizes => k_is); (case k_is_sizes => k_is); (case d_check_sizes => k_is); (case k_check_sizes => k_is); (case d_product => k_is); (case k_product => k_is); (case d_size_product => k_is); (case k_size_product => k_is); (case d_is_values => k_is); (case k_is_values => k_is); (case d_check_values => k_is); (case k_check_values => k_is); (case d_index_of => k_is); (case k_index_of => k_is); (case d_values_at => k_is); (case k_values_at => k_is); (case d_check_product => k_is); (case k_check_product => k_is); (case d_all_values => k_is); (case k_all_values => k_is); (case d__law_pool => k_is); (case k__law_pool => k_is); (case d__law_take => k_is); (case k__law_take => k_is); (case d__law_worths => k_is); (case k__law_worths => k_is); (case d__law_told => k_is); (case k__law_told => k_is); (case d__law_good_right => k_is); (case k__law_good_right => k_is); (case d__law_bad_right => k_is); (case k__law_bad_right => k_is); (case d_law => k_is); (case k_law => k_is); (case x1_NetworkError => k_is); (case x2_NetworkError => k_is); (case x3_NetworkError => k_is); (case y1_InvalidSizes => k_is); (case y2_InvalidSizes => k_is); (case y3_InvalidSizes => k_is); (case y4_InvalidSizes => k_is); (case y5_InvalidSizes => k_is); (case y6_InvalidSizes => k_is); (case y7_InvalidSizes => k_is); (case y8_InvalidSizes => k_is); (case y9_InvalidSizes => k_is); (case z1_InvalidSizes => k_is); (case d_iInvalidSizes => k_is); (case k_iInvalidSizes => k_is); (case w0_InvalidSizes => k_is); (case s_InvalidSizes_InvalidSizes => k_is); (case s_InvalidSizes_InvalidValues => k_is); (case s_InvalidSizes_InvalidNumber => k_is); (case s_InvalidSizes_TooWide => k_is); (case y1_InvalidValues => k_is); (case y2_InvalidValues => k_is); (case y3_InvalidValues => k_is); (case y4_InvalidValues => k_is); (case y5_InvalidValues => k_is); (case y6_InvalidValues => k_is); (case y7_InvalidValues => k_is); (case y8_InvalidValues => k_is); (case y9_InvalidValues => k_is); (case z1_InvalidValues => k_is); (case d_iInvalidValues => k_is); (case k_iInvalidValues => k_is); (case w0_InvalidValues => k_is); (case s_InvalidValues_InvalidSizes => k_is); (case s_InvalidValues_InvalidValues => k_is); (case s_InvalidValues_InvalidNumber => k_is); (case s_InvalidValues_TooWide => k_is); (case y1_InvalidNumber => k_is); (case y2_InvalidNumber => k_is); (case y3_InvalidNumber => k_is); (case y4_InvalidNumber => k_is); (case y5_InvalidNumber => k_is); (case y6_InvalidNumber => k_is); (case y7_InvalidNumber => k_is); (case y8_InvalidNumber => k_is); (case y9_InvalidNumber => k_is); (case z1_InvalidNumber => k_is); (case d_iInvalidNumber => k_is); (case k_iInvalidNumber => k_is); (case w0_InvalidNumber => k_is); (case s_InvalidNumber_InvalidSizes => k_is); (case s_InvalidNumber_InvalidValues => k_is); (case s_InvalidNumber_InvalidNumber => k_is); (case s_InvalidNumber_TooWide => k_is); (case y1_TooWide => k_is); (case y2_TooWide => k_is); (case y3_TooWide => k_is); (case y4_TooWide => k_is); (case y5_TooWide => k_is); (case y6_TooWide => k_is); (case y7_TooWide => k_is); (case y8_TooWide => k_is); (case y9_TooWide => k_is); (case z1_TooWide => k_is); (case d_iTooWide => k_is); (case k_iTooWide => k_is); (case w0_TooWide => k_is); (case s_TooWide_InvalidSizes => k_is); (case s_TooWide_InvalidValues => k_is); (case s_TooWide_InvalidNumber => k_is); (case s_TooWide_TooWide => k_is)
  case S => exact K01.law_true
end
