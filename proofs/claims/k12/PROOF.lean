import PyProof.Rows.All
import Wide.All
import OpenK.AllK
import Wide.FinOn
import HandS.ForMost
import HandS.ForExc
import HandS.IsInst
import HandS.StrMore
import HandS.StrSplit
import HandS.Deep
import HandS.TupAny
import HandS.TupLe
import HandS.TupMul
import HandS.TupLen
import HandS.Wide
import PySem.Challenge.RW_firingrules_k12_integers_and_names
set_option Elab.async false
set_option linter.all false
set_option autoImplicit false
set_option maxRecDepth 100000
set_option maxHeartbeats 2000000
namespace Fr
open PySem L2

/-! ### data and their places -/
abbrev D := PyData
structure Gx where
  K : PySem.W.Frag
  cl : Str → Addr

def kD : Key → D
  | .inl i => .int i
  | .inr x => .str x

mutual
inductive R (G : Gx) (F : Hp) : D → V → Prop
  | non : R G F .none .non
  | bl (b : Bool) : R G F (.bool b) (.bl b)
  | int (i : Int) : R G F (.int i) (.int i)
  | str (x : Str) : R G F (.str x) (.str x)
  | lst {a : Addr} {xs : List V} {ds : List D} : F a = some (.lst xs) → Rs G F ds xs → R G F (.list ds) (.ref a)
  | tup {a : Addr} {xs : List V} {ds : List D} : SqT G.K F a xs → Rs G F ds xs → R G F (.tuple ds) (.ref a)
  | dK {a : Addr} {kvs : List (Key × V)} {es : List (D × D)} : F a = some (.dK kvs) → RK G F es kvs → R G F (.dict es) (.ref a)
  | dT {a : Addr} {kvs : List (List Key × V)} {es : List (D × D)} : F a = some (.dT kvs) → RT G F es kvs → R G F (.dict es) (.ref a)
  | obj {a dx : Addr} {c : Str} {fs : List (Str × V)} {es : List (D × D)} : F a = some (.ins (G.cl c) dx fs) → F dx = some (.own a) → RF G F es fs → R G F (.dict ((.none, .str c) :: es)) (.ref a)
  | scr {a : Addr} {ns : List Int} : SqL G.K F a (ns.map V.int) → R G F (.dict [(.none, .list (ns.map PyData.int))]) (.ref a)
inductive Rs (G : Gx) (F : Hp) : List D → List V → Prop
  | nil : Rs G F [] []
  | cons {d : D} {v : V} {ds : List D} {vs : List V} : R G F d v → Rs G F ds vs → Rs G F (d :: ds) (v :: vs)
inductive RK (G : Gx) (F : Hp) : List (D × D) → List (Key × V) → Prop
  | nil : RK G F [] []
  | cons {k : Key} {d : D} {v : V} {es : List (D × D)} {vs : List (Key × V)} : R G F d v → RK G F es vs → RK G F ((kD k, d) :: es) ((k, v) :: vs)
inductive RT (G : Gx) (F : Hp) : List (D × D) → List (List Key × V) → Prop
  | nil : RT G F [] []
  | cons {k : List Key} {d : D} {v : V} {es : List (D × D)} {vs : List (List Key × V)} : R G F d v → RT G F es vs → RT G F ((.tuple (k.map kD), d) :: es) ((k, v) :: vs)
inductive RF (G : Gx) (F : Hp) : List (D × D) → List (Str × V) → Prop
  | nil : RF G F [] []
  | cons {k : Str} {d : D} {v : V} {es : List (D × D)} {vs : List (Str × V)} : R G F d v → RF G F es vs → RF G F ((.str k, d) :: es) ((k, v) :: vs)
end

theorem sqT_same {K : PySem.W.Frag} {H H' : Hp} {a : Addr} {xs : List V} (e : Same H H') (h : SqT K H a xs) : SqT K H' a xs := by
  rcases h with (h | ⟨o, h⟩) | h
  · exact .inl (.inl (e _ _ h))
  · exact .inl (.inr ⟨o, e _ _ h⟩)
  · exact .inr h

theorem sqL_same {K : PySem.W.Frag} {H H' : Hp} {a : Addr} {xs : List V} (e : Same H H') (h : SqL K H a xs) : SqL K H' a xs := by
  rcases h with (h | ⟨o, h⟩) | h
  · exact .inl (.inl (e _ _ h))
  · exact .inl (.inr ⟨o, e _ _ h⟩)
  · exact .inr h

section
variable {G : Gx} {F F' : Hp}
mutual
theorem R.mono (s : Same F F') : ∀ {d : D} {v : V}, R G F d v → R G F' d v
  | _, _, .non => .non
  | _, _, .bl b => .bl b
  | _, _, .int i => .int i
  | _, _, .str x => .str x
  | _, _, .lst h r => .lst (s _ _ h) (Rs.mono s r)
  | _, _, .tup h r => .tup (sqT_same s h) (Rs.mono s r)
  | _, _, .dK h r => .dK (s _ _ h) (RK.mono s r)
  | _, _, .dT h r => .dT (s _ _ h) (RT.mono s r)
  | _, _, .obj h k r => .obj (s _ _ h) (s _ _ k) (RF.mono s r)
  | _, _, .scr h => .scr (sqL_same s h)
theorem Rs.mono (s : Same F F') : ∀ {ds : List D} {vs : List V}, Rs G F ds vs → Rs G F' ds vs
  | _, _, .nil => .nil
  | _, _, .cons h r => .cons (R.mono s h) (Rs.mono s r)
theorem RK.mono (s : Same F F') : ∀ {ds : List (D × D)} {vs : List (Key × V)}, RK G F ds vs → RK G F' ds vs
  | _, _, .nil => .nil
  | _, _, .cons h r => .cons (R.mono s h) (RK.mono s r)
theorem RT.mono (s : Same F F') : ∀ {ds : List (D × D)} {vs : List (List Key × V)}, RT G F ds vs → RT G F' ds vs
  | _, _, .nil => .nil
  | _, _, .cons h r => .cons (R.mono s h) (RT.mono s r)
theorem RF.mono (s : Same F F') : ∀ {ds : List (D × D)} {vs : List (Str × V)}, RF G F ds vs → RF G F' ds vs
  | _, _, .nil => .nil
  | _, _, .cons h r => .cons (R.mono s h) (RF.mono s r)
end
theorem Rs.length : ∀ {ds : List D} {vs : List V}, Rs G F ds vs → vs.length = ds.length
  | _, _, .nil => rfl
  | _, _, .cons _ r => by simp [Rs.length r]
theorem Rs.append : ∀ {ds es : List D} {vs ws : List V}, Rs G F ds vs → Rs G F es ws → Rs G F (ds ++ es) (vs ++ ws)
  | _, _, _, _, .nil, r => r
  | _, _, _, _, .cons h t, r => .cons h (Rs.append t r)
theorem Rs.get : ∀ {ds : List D} {vs : List V} {i : Nat} {v : V}, Rs G F ds vs → vs[i]? = some v → ∃ d, ds[i]? = some d ∧ R G F d v
  | _, _, _, _, .nil, e => by simp at e
  | _, _, 0, _, .cons h _, e => by simp at e; subst e; exact ⟨_, rfl, h⟩
  | _, _, i + 1, v, .cons _ t, e => by
    obtain ⟨d, h1, h2⟩ := Rs.get (i := i) (v := v) t (by simpa using e)
    exact ⟨d, by simpa using h1, h2⟩
theorem Rs.getD : ∀ {ds : List D} {vs : List V} {i : Nat} {d : D}, Rs G F ds vs → ds[i]? = some d → ∃ v, vs[i]? = some v ∧ R G F d v
  | _, _, _, _, .nil, e => by simp at e
  | _, _, 0, _, .cons h _, e => by simp at e; subst e; exact ⟨_, rfl, h⟩
  | _, _, i + 1, v, .cons _ t, e => by
    obtain ⟨d, h1, h2⟩ := Rs.getD (i := i) (d := v) t (by simpa using e)
    exact ⟨d, by simpa using h1, h2⟩
theorem Rs.take : ∀ {ds : List D} {vs : List V} (n : Nat), Rs G F ds vs → Rs G F (ds.take n) (vs.take n)
  | _, _, 0, _ => by simp; exact .nil
  | _, _, _ + 1, .nil => by simp; exact .nil
  | _, _, n + 1, .cons h t => by simp; exact .cons h (Rs.take n t)
theorem Rs.drop : ∀ {ds : List D} {vs : List V} (n : Nat), Rs G F ds vs → Rs G F (ds.drop n) (vs.drop n)
  | _, _, 0, r => by simpa using r
  | _, _, _ + 1, .nil => by simp; exact .nil
  | _, _, n + 1, .cons _ t => by simp; exact Rs.drop n t
theorem Rs.set {d : D} {v : V} (h : R G F d v) : ∀ {ds : List D} {vs : List V} (i : Nat), Rs G F ds vs → Rs G F (ds.set i d) (vs.set i v)
  | _, _, _, .nil => .nil
  | _, _, 0, .cons _ t => .cons h t
  | _, _, i + 1, .cons q t => .cons q (Rs.set h i t)
theorem Rs.reverse {ds : List D} {vs : List V} (h : Rs G F ds vs) : Rs G F ds.reverse vs.reverse := by
  induction ds generalizing vs with
  | nil => cases h; exact .nil
  | cons d ds ih =>
    cases h with
    | cons q t =>
      rw [List.reverse_cons, List.reverse_cons]
      exact (ih t).append (.cons q .nil)
theorem Rs.eraseIdx : ∀ {ds : List D} {vs : List V} (i : Nat), Rs G F ds vs → Rs G F (ds.eraseIdx i) (vs.eraseIdx i)
  | _, _, _, .nil => .nil
  | _, _, 0, .cons _ t => t
  | _, _, i + 1, .cons q t => .cons q (Rs.eraseIdx i t)
end

/-! ### slots, results, outcomes -/
inductive Sl where
  | val (d : D)
  | own (d : D)
abbrev EV := List (Option Sl)
/-- what an expression gives: frozen data, a new object that nobody else knows, the thing owned by slot i -/
inductive Rv where
  | val (d : D)
  | own (d : D)
  | ref (i : Nat)
inductive Out (α : Type) where
  | ok (a : α)
  | ex (c : Str) (fs : List (D × D)) (ρ : EV)
  | bad
@[reducible] def Out.bind {α β : Type} (x : Out α) (f : α → Out β) : Out β :=
  match x with
  | .ok a => f a
  | .ex c d ρ => .ex c d ρ
  | .bad => .bad

def OwnR (G : Gx) (F H : Hp) : D → Addr → Prop
  | .list ds, a => ∃ xs, H a = some (.lst xs) ∧ Rs G F ds xs
  | .dict es, a => (∃ kvs, H a = some (.dK kvs) ∧ RK G F es kvs) ∨ (∃ kvs, H a = some (.dT kvs) ∧ RT G F es kvs)
  | _, _ => False
/-- readable now -/
def Rd (G : Gx) (F H : Hp) : D → V → Prop
  | .list ds, v => ∃ a xs, v = .ref a ∧ H a = some (.lst xs) ∧ Rs G F ds xs
  | .tuple ds, v => ∃ a xs, v = .ref a ∧ SqT G.K F a xs ∧ Rs G F ds xs
  | .dict es, v => ∃ a, v = .ref a ∧ ((∃ kvs, H a = some (.dK kvs) ∧ RK G F es kvs) ∨ (∃ kvs, H a = some (.dT kvs) ∧ RT G F es kvs) ∨
      (∃ c es' dx fs, es = (.none, .str c) :: es' ∧ H a = some (.ins (G.cl c) dx fs) ∧ RF G F es' fs) ∨ ∃ ns : List Int, es = [(.none, .list (ns.map PyData.int))] ∧ SqL G.K F a (ns.map V.int))
  | .none, v => v = .non
  | .bool b, v => v = .bl b
  | .int i, v => v = .int i
  | .str x, v => v = .str x

/-- slot i owns what stands at a -/
def Ow (ρ : EV) (σ : St) (i : Nat) (a : Addr) : Prop := (∃ d : D, ρ[i]? = some (some (Sl.own d))) ∧ σ[i]? = some (some (V.ref a))

structure EnvR (G : Gx) (F H : Hp) (ρ : EV) (σ : St) : Prop where
  same : Same F H
  len : ρ.length = σ.length
  val : ∀ (i : Nat) (d : D), ρ[i]? = some (some (Sl.val d)) → ∃ v, σ[i]? = some (some v) ∧ R G F d v
  own : ∀ (i : Nat) (d : D), ρ[i]? = some (some (Sl.own d)) → ∃ a, σ[i]? = some (some (V.ref a)) ∧ F a = none ∧ OwnR G F H d a
  ne : ∀ (i j : Nat) (a : Addr), Ow ρ σ i a → Ow ρ σ j a → i = j

structure Stp (G : Gx) (F H : Hp) (ρ : EV) (F' H' : Hp) (ρ' : EV) (σ : St) : Prop where
  fr : Same F F'
  env : EnvR G F' H' ρ' σ
  new : ∀ a o, F' a = some o → F a = some o ∨ H a = none
  keep : ∀ a o, H a = some o → (∀ i, ¬ Ow ρ σ i a) → H' a = some o
  mode : ∀ i : Nat, (∃ d d' : D, ρ[i]? = some (some (Sl.own d)) ∧ ρ'[i]? = some (some (Sl.own d'))) ∨ ((∀ d : D, ρ[i]? ≠ some (some (Sl.own d))) ∧ ρ'[i]? = ρ[i]?)

def ResR (G : Gx) (Hb F H : Hp) (ρ : EV) (σ : St) : Rv → V → Prop
  | .val d, v => R G F d v
  | .own d, v => ∃ a, v = .ref a ∧ F a = none ∧ Hb a = none ∧ OwnR G F H d a
  | .ref i, v => σ[i]? = some (some v) ∧ ∃ d : D, ρ[i]? = some (some (Sl.own d))

/-- an exception lies as told -/
def XR (G : Gx) (F H : Hp) (c : Str) (fs : List (D × D)) (cls : Value) (dd : Option Addr) : Prop :=
  cls = .ref (G.cl c) ∧ ((fs = [] ∧ dd = none) ∨ ∃ a vs, dd = some a ∧ H a = some (.xd vs) ∧ RF G F fs vs)

/-- an outcome under wishes -/
def PostG {α : Type} (okc : α → Prop) (exc : Str → List (D × D) → EV → Prop) : Out α → Prop
  | .ok a => okc a
  | .ex c fs ρ => exc c fs ρ
  | .bad => False
theorem post_bind {α β : Type} {okc : β → Prop} {exc : Str → List (D × D) → EV → Prop} (o : Out α) (k : α → Out β) : PostG okc exc (o.bind k) ↔ PostG (fun a => PostG okc exc (k a)) exc o := by
  cases o <;> exact Iff.rfl
theorem PostG.imp {α : Type} {okc okc' : α → Prop} {exc exc' : Str → List (D × D) → EV → Prop} {o : Out α} (h : PostG okc exc o) (h1 : ∀ a, okc a → okc' a) (h2 : ∀ c fs ρ, exc c fs ρ → exc' c fs ρ) : PostG okc' exc' o := by
  cases o with
  | ok a => exact h1 _ h
  | ex c fs ρ => exact h2 _ _ _ h
  | bad => exact h
def XC (G : Gx) (E : XK) (F H : Hp) (σ : St) (ρ : EV) : Str → List (D × D) → EV → Prop := fun c fs ρ' => ∀ F' H' cls dd, Stp G F H ρ F' H' ρ' σ → XR G F' H' c fs cls dd → E cls dd H'
def Okc (G : Gx) (F H : Hp) (σ : St) (ρ : EV) (Q : VK) : Rv × EV → Prop := fun x => ∀ F' H' v, Stp G F H ρ F' H' x.2 σ → ResR G H F' H' x.2 σ x.1 v → Q v H'
abbrev Post (G : Gx) (E : XK) (F H : Hp) (σ : St) (ρ : EV) (Q : VK) : Out (Rv × EV) → Prop := PostG (Okc G F H σ ρ Q) (XC G E F H σ ρ)

def Md (G : Gx) (E : XK) (t : TE) (m : EV → Out (Rv × EV)) : Prop :=
  ∀ F H ρ σ Q, EnvR G F H ρ σ → Post G E F H σ ρ Q (m ρ) → t σ H Q

section
variable {G : Gx} {E : XK} {F F' F'' H H' H'' : Hp} {ρ ρ' ρ'' : EV} {σ : St} {d : D} {v : V} {a : Addr} {t ta tb : TE} {m ma mb : EV → Out (Rv × EV)}
theorem OwnR.mono (s : Same F F') (h : OwnR G F H d a) : OwnR G F' H d a := by
  cases d <;> simp only [OwnR] at h ⊢
  · obtain ⟨xs, e, r⟩ := h; exact ⟨xs, e, r.mono s⟩
  · rcases h with ⟨kvs, e, r⟩ | ⟨kvs, e, r⟩
    · exact .inl ⟨kvs, e, r.mono s⟩
    · exact .inr ⟨kvs, e, r.mono s⟩
theorem OwnR.at (e : H' a = H a) (h : OwnR G F H d a) : OwnR G F H' d a := by
  cases d <;> simp only [OwnR] at h ⊢ <;> rw [e] <;> exact h
theorem OwnR.there (h : OwnR G F H d a) : ∃ o, H a = some o := by
  cases d <;> simp only [OwnR] at h
  · obtain ⟨xs, e, r⟩ := h; exact ⟨_, e⟩
  · rcases h with ⟨kvs, e, r⟩ | ⟨kvs, e, r⟩ <;> exact ⟨_, e⟩
theorem OwnR.rd (h : OwnR G F H d a) : Rd G F H d (.ref a) := by
  cases d <;> simp only [OwnR] at h <;> simp only [Rd]
  · obtain ⟨xs, e, r⟩ := h; exact ⟨a, xs, rfl, e, r⟩
  · rcases h with ⟨kvs, e, r⟩ | ⟨kvs, e, r⟩
    · exact ⟨a, rfl, .inl ⟨kvs, e, r⟩⟩
    · exact ⟨a, rfl, .inr (.inl ⟨kvs, e, r⟩)⟩
theorem R.rd (s : Same F H) (h : R G F d v) : Rd G F H d v := by
  cases h with
  | non => rfl
  | bl b => rfl
  | int i => rfl
  | str x => rfl
  | lst h r => exact ⟨_, _, rfl, s _ _ h, r⟩
  | tup h r => exact ⟨_, _, rfl, h, r⟩
  | dK h r => exact ⟨_, rfl, .inl ⟨_, s _ _ h, r⟩⟩
  | dT h r => exact ⟨_, rfl, .inr (.inl ⟨_, s _ _ h, r⟩)⟩
  | obj h k r => exact ⟨_, rfl, .inr (.inr (.inl ⟨_, _, _, _, rfl, s _ _ h, r⟩))⟩
  | scr h => exact ⟨_, rfl, .inr (.inr (.inr ⟨_, rfl, h⟩))⟩
theorem EnvR.there (e : EnvR G F H ρ σ) {i : Nat} (o : Ow ρ σ i a) : ∃ x, H a = some x := by
  obtain ⟨⟨d, h1⟩, h2⟩ := o
  obtain ⟨b, h3, _, h4⟩ := e.own i d h1
  rw [h2] at h3
  obtain rfl : a = b := by injection h3 with q; injection q with q; injection q
  exact h4.there
theorem EnvR.free (e : EnvR G F H ρ σ) {i : Nat} (o : Ow ρ σ i a) : F a = none := by
  obtain ⟨⟨d, h1⟩, h2⟩ := o
  obtain ⟨b, h3, h5, h4⟩ := e.own i d h1
  rw [h2] at h3
  obtain rfl : a = b := by injection h3 with q; injection q with q; injection q
  exact h5
theorem Stp.refl (e : EnvR G F H ρ σ) : Stp G F H ρ F H ρ σ where
  fr := .refl _
  env := e
  new := fun a o h => .inl h
  keep := fun a o h _ => h
  mode := fun i => by
    cases q : ρ[i]? with
    | none => exact .inr ⟨by simp, rfl⟩
    | some x =>
      cases x with
      | none => exact .inr ⟨by simp, rfl⟩
      | some x =>
        cases x with
        | val d => exact .inr ⟨by simp, rfl⟩
        | own d => exact .inl ⟨d, d, rfl, rfl⟩
theorem Stp.ow (s : Stp G F H ρ F' H' ρ' σ) (i : Nat) : Ow ρ' σ i a ↔ Ow ρ σ i a := by
  rcases s.mode i with ⟨d, d', h1, h2⟩ | ⟨h1, h2⟩
  · exact ⟨fun ⟨_, q⟩ => ⟨⟨d, h1⟩, q⟩, fun ⟨_, q⟩ => ⟨⟨d', h2⟩, q⟩⟩
  · exact ⟨fun ⟨⟨e, p⟩, q⟩ => (h1 e (h2 ▸ p)).elim, fun ⟨⟨e, p⟩, q⟩ => (h1 e p).elim⟩
theorem Stp.trans (s : Stp G F H ρ F' H' ρ' σ) (u : Stp G F' H' ρ' F'' H'' ρ'' σ) : Stp G F H ρ F'' H'' ρ'' σ where
  fr := s.fr.trans u.fr
  env := u.env
  new := fun a o h => by
    rcases u.new a o h with q | q
    · exact s.new a o q
    · cases z : H a with
      | none => exact .inr rfl
      | some x =>
        by_cases w : ∃ i, Ow ρ σ i a
        · obtain ⟨i, w⟩ := w
          obtain ⟨y, hy⟩ := s.env.there ((s.ow i).mpr w)
          rw [hy] at q; cases q
        · rw [s.keep a x z (fun i q => w ⟨i, q⟩)] at q; cases q
  keep := fun a o h w => u.keep a o (s.keep a o h w) fun i q => w i ((s.ow i).mp q)
  mode := fun i => by
    rcases s.mode i with ⟨d, d', h1, h2⟩ | ⟨h1, h2⟩
    · rcases u.mode i with ⟨e, e', k1, k2⟩ | ⟨k1, k2⟩
      · exact .inl ⟨d, e', h1, k2⟩
      · exact (k1 d' h2).elim
    · rcases u.mode i with ⟨e, e', k1, k2⟩ | ⟨k1, k2⟩
      · rw [h2] at k1; exact (h1 e k1).elim
      · exact .inr ⟨h1, k2.trans h2⟩
/-- what is new and pure: nothing that was there has changed -/
structure Grow (F H F' H' : Hp) : Prop where
  fr : Same F F'
  sub : Same F' H'
  new : ∀ a o, F' a = some o → F a = some o ∨ H a = none
  keep : Same H H'
theorem Grow.refl (s : Same F H) : Grow F H F H := ⟨.refl _, s, fun _ _ h => .inl h, .refl _⟩
theorem Grow.trans (s : Grow F H F' H') (u : Grow F' H' F'' H'') : Grow F H F'' H'' :=
  ⟨s.fr.trans u.fr, u.sub, fun a o h => (u.new a o h).elim (s.new a o) fun q => .inr (s.keep.free q), s.keep.trans u.keep⟩
theorem EnvR.grow (e : EnvR G F H ρ σ) (g : Grow F H F' H') : EnvR G F' H' ρ σ where
  same := g.sub
  len := e.len
  val := fun i d h => let ⟨v, q, r⟩ := e.val i d h; ⟨v, q, r.mono g.fr⟩
  own := fun i d h => by
    obtain ⟨a, q, f, o⟩ := e.own i d h
    obtain ⟨x, hx⟩ := o.there
    refine ⟨a, q, ?_, (o.mono g.fr).at ?_⟩
    · cases z : F' a with
      | none => rfl
      | some y =>
        rcases g.new a y z with w | w
        · rw [f] at w; cases w
        · rw [hx] at w; cases w
    · rw [g.keep a x hx, hx]
  ne := e.ne
theorem Grow.stp (e : EnvR G F H ρ σ) (g : Grow F H F' H') : Stp G F H ρ F' H' ρ σ :=
  { Stp.refl e with fr := g.fr, env := e.grow g, new := g.new, keep := fun a o h _ => g.keep a o h }
/-- a thing that nobody owns is frozen -/
theorem EnvR.freeze (e : EnvR G F H ρ σ) {o : HO} (h : H a = some o) (f : F a = none) (w : ∀ i, ¬ Ow ρ σ i a) : EnvR G (upd F a o) H ρ σ where
  same := fun b x q => by
    by_cases z : b = a
    · subst z; rw [upd_same] at q; rw [h]; exact q
    · rw [upd_ne z] at q; exact e.same b x q
  len := e.len
  val := fun i d q => let ⟨v, k, r⟩ := e.val i d q; ⟨v, k, r.mono fun b x z => by rw [upd_ne (ne_of_none z f)]; exact z⟩
  own := fun i d q => by
    obtain ⟨b, k, z, r⟩ := e.own i d q
    have n : b ≠ a := fun y => w i ⟨⟨d, q⟩, y ▸ k⟩
    exact ⟨b, k, by rw [upd_ne n]; exact z, r.mono fun b x z => by rw [upd_ne (ne_of_none z f)]; exact z⟩
  ne := e.ne
theorem same_upd {o : HO} (f : F a = none) : Same F (upd F a o) := fun b x z => by rw [upd_ne (ne_of_none z f)]; exact z
theorem OwnR.frozen (h : OwnR G F H d a) (f : F a = none) : ∃ o, H a = some o ∧ R G (upd F a o) d (.ref a) := by
  have s {o : HO} : Same F (upd F a o) := same_upd f
  cases d <;> simp only [OwnR] at h
  · obtain ⟨xs, e, r⟩ := h; exact ⟨_, e, .lst upd_same (r.mono s)⟩
  · rcases h with ⟨kvs, e, r⟩ | ⟨kvs, e, r⟩
    · exact ⟨_, e, .dK upd_same (r.mono s)⟩
    · exact ⟨_, e, .dT upd_same (r.mono s)⟩
/-- own results frozen -/
def fz : Rv → Rv
  | .own d => .val d
  | r => r
def fzO : Out (Rv × EV) → Out (Rv × EV)
  | .ok (r, ρ) => .ok (fz r, ρ)
  | .ex c f ρ => .ex c f ρ
  | .bad => .bad
theorem Md.fz (h : Md G E t m) : Md G E t (fun ρ => fzO (m ρ)) := fun F H ρ σ Q e p => by
  refine h F H ρ σ Q e ?_
  revert p
  dsimp only
  cases m ρ with
  | bad => exact id
  | ex c f ρ' => exact id
  | ok x =>
    obtain ⟨r, ρ'⟩ := x
    cases r with
    | val d => exact id
    | ref i => exact id
    | own d =>
      intro p F' H' v s ⟨a, ev, f, n, o⟩
      obtain ⟨x, hx, r⟩ := o.frozen f
      subst ev
      refine p (upd F' a x) H' (.ref a) ⟨s.fr.trans (same_upd f), s.env.freeze hx f ?_, ?_, s.keep, s.mode⟩ r
      · intro i w
        obtain ⟨y, hy⟩ := e.there ((s.ow i).mp w)
        rw [n] at hy; cases hy
      · intro b y z
        by_cases q : b = a
        · subst q; exact .inr n
        · rw [upd_ne q] at z; exact s.new b y z
/-- the data of an operand now -/
def rdv (ρ : EV) : Rv → Option D
  | .val d => some d
  | .own _ => none
  | .ref i => match ρ[i]? with
    | some (some (.own d)) => some d
    | _ => none
theorem ResR.rd {Hb : Hp} {r : Rv} (e : EnvR G F H ρ σ) (h : ResR G Hb F H ρ σ r v) (q : rdv ρ r = some d) : Rd G F H d v := by
  cases r with
  | val x => simp only [rdv] at q; injection q with q; subst q; exact R.rd e.same h
  | own x => simp only [rdv] at q; cases q
  | ref i =>
    obtain ⟨h1, y, h2⟩ := h
    simp only [rdv, h2] at q
    injection q with q
    subst q
    obtain ⟨a, k, f, o⟩ := e.own i y h2
    rw [h1] at k
    injection k with k; injection k with k
    subst k
    exact o.rd
/-- a result stays behind a further step -/
theorem ResR.step {Hb : Hp} {r : Rv} (s : Stp G F H ρ F' H' ρ' σ) (h : ResR G Hb F H ρ σ r v) (hr : ∀ d, r ≠ .own d) : ResR G Hb F' H' ρ' σ r v := by
  cases r with
  | val x => exact R.mono s.fr h
  | own x => exact (hr x rfl).elim
  | ref i =>
    obtain ⟨h1, y, h2⟩ := h
    rcases s.mode i with ⟨d, d', k1, k2⟩ | ⟨k1, k2⟩
    · exact ⟨h1, d', k2⟩
    · exact (k1 y h2).elim
theorem fz_own (r : Rv) (d : D) : Fr.fz r ≠ .own d := by cases r <;> simp [Fr.fz]
theorem ResR.hb {Hb Hc : Hp} {r : Rv} (h : ResR G Hb F H ρ σ r v) (hr : ∀ d, r ≠ .own d) : ResR G Hc F H ρ σ r v := by
  cases r with
  | val x => exact h
  | own x => exact (hr x rfl).elim
  | ref i => exact h
end
end Fr
namespace Fr
open PySem L2

theorem XC.step {G : Gx} {E : XK} {F H F' H' : Hp} {σ : St} {ρ ρ' : EV} {c : Str} {fs : List (D × D)} {ρ'' : EV} (s : Stp G F H ρ F' H' ρ' σ) (h : XC G E F H σ ρ c fs ρ'') : XC G E F' H' σ ρ' c fs ρ'' :=
  fun F2 H2 cls dd s2 x => h F2 H2 cls dd (s.trans s2) x

theorem Stp.none {G : Gx} {F H F' H' : Hp} {σ : St} {ρ ρ' : EV} {a : Addr} (e : EnvR G F H ρ σ) (s : Stp G F H ρ F' H' ρ' σ) (h : H' a = none) : H a = none := by
  cases z : H a with
  | none => rfl
  | some x =>
    by_cases w : ∃ i, Ow ρ σ i a
    · obtain ⟨i, w⟩ := w
      obtain ⟨y, hy⟩ := s.env.there ((s.ow i).mpr w)
      rw [hy] at h; cases h
    · rw [s.keep a x z (fun i q => w ⟨i, q⟩)] at h; cases h
theorem ResR.back {G : Gx} {F1 H1 F H Hb Hc : Hp} {σ : St} {ρ : EV} {r : Rv} {v : V} (n : ∀ a, Hc a = Option.none → Hb a = Option.none) (h : ResR G Hc F H ρ σ r v) : ResR G Hb F H ρ σ r v := by
  cases r with
  | val d => exact h
  | ref i => exact h
  | own d => obtain ⟨a, h1, h2, h3, h4⟩ := h; exact ⟨a, h1, h2, n _ h3, h4⟩
theorem Okc.step {G : Gx} {F H F' H' : Hp} {σ : St} {ρ ρ' : EV} {Q : VK} {x : Rv × EV} (s : Stp G F H ρ F' H' ρ' σ) (e : EnvR G F H ρ σ) (h : Okc G F H σ ρ Q x) : Okc G F' H' σ ρ' Q x :=
  fun F2 H2 v s2 r => h F2 H2 v (s.trans s2) (r.back (F1 := F) (H1 := H) fun a q => s.none e q)

/-- where one stands: room for kk calls, no repr under way, nothing handled, what is raised goes to E -/
structure Cw (X : Cx) (K : PySem.W.Frag) (E : XK) (kk : Nat) : Prop where
  kq : X.K = K
  room : Room kk X.A
  gd : X.A.guards = some []
  calm : X.calm = true
  pass : Passes (L2.CX X.prog X.w) X E
theorem Cw.blk {X : Cx} {K : PySem.W.Frag} {E : XK} {kk : Nat} (C : Cw X K E kk) {s : Shared} {H : Hp} {scope : Scope} {env : Env} {fp : List Addr} : Cw (X.blk s H scope env fp) K E0 kk := ⟨C.kq, C.room, C.gd, C.calm, passL⟩

/-! ### judgements -/
def SE (X : Cx) (K : PySem.W.Frag) (cl : Str → Addr) (E : XK) (e : Expr) (t : TE) (m : EV → Out (Rv × EV)) : Prop := PE X e t ∧ Md ⟨K, cl⟩ E t m
/-- a test -/
def OkcT (G : Gx) (F H : Hp) (σ : St) (ρ : EV) (Q : Bool → Hp → Prop) : Bool × EV → Prop := fun x => ∀ F' H', Stp G F H ρ F' H' x.2 σ → Q x.1 H'
def MdT (G : Gx) (E : XK) (t : TT) (m : EV → Out (Bool × EV)) : Prop :=
  ∀ F H ρ σ Q, EnvR G F H ρ σ → PostG (OkcT G F H σ ρ Q) (XC G E F H σ ρ) (m ρ) → t σ H Q
def SQ (X : Cx) (K : PySem.W.Frag) (cl : Str → Addr) (E : XK) (e : Expr) (t : TT) (m : EV → Out (Bool × EV)) : Prop := PT X e t ∧ MdT ⟨K, cl⟩ E t m
def SW (X : Cx) (K : PySem.W.Frag) (cl : Str → Addr) (E : XK) (e : Expr) (t : TT) (m : EV → Out (Bool × EV)) : Prop := PW X e t ∧ MdT ⟨K, cl⟩ E t m
/-- arguments -/
inductive ResRs (G : Gx) (F H : Hp) (ρ : EV) (σ : St) : List Rv → List V → Prop
  | nil : ResRs G F H ρ σ [] []
  | cons {r : Rv} {v : V} {rs : List Rv} {vs : List V} : (∀ d, r ≠ .own d) → ResR G H F H ρ σ r v → ResRs G F H ρ σ rs vs → ResRs G F H ρ σ (r :: rs) (v :: vs)
def OkcA (G : Gx) (F H : Hp) (σ : St) (ρ : EV) (Q : List V → Hp → Prop) : List Rv × EV → Prop := fun x => ∀ F' H' vs, Stp G F H ρ F' H' x.2 σ → ResRs G F' H' x.2 σ x.1 vs → Q vs H'
def MdA (G : Gx) (E : XK) (t : TA) (m : EV → Out (List Rv × EV)) : Prop :=
  ∀ F H ρ σ Q, EnvR G F H ρ σ → PostG (OkcA G F H σ ρ Q) (XC G E F H σ ρ) (m ρ) → t σ H Q
def SA (X : Cx) (K : PySem.W.Frag) (cl : Str → Addr) (E : XK) (es : List Expr) (t : TA) (m : EV → Out (List Rv × EV)) : Prop := PA X es t ∧ MdA ⟨K, cl⟩ E t m

/-! ### values -/
def SlV (G : Gx) (Hb F H : Hp) : Sl → V → Prop
  | .val d, v => R G F d v
  | .own d, v => ∃ a, v = .ref a ∧ F a = none ∧ Hb a = none ∧ OwnR G F H d a
def Sl.rv : Sl → Rv
  | .val d => .val d
  | .own d => .own d
theorem SlV.res {G : Gx} {Hb F H : Hp} {s : Sl} {v : V} {ρ : EV} {σ : St} (h : SlV G Hb F H s v) : ResR G Hb F H ρ σ s.rv v := by
  cases s <;> exact h
inductive Rds (G : Gx) (F H : Hp) : List D → List V → Prop
  | nil : Rds G F H [] []
  | cons {d : D} {v : V} {ds : List D} {vs : List V} : Rd G F H d v → Rds G F H ds vs → Rds G F H (d :: ds) (v :: vs)
def okS (G : Gx) (F H : Hp) (Q : VK) : Option Sl → Prop
  | some s => ∀ F' H' v, Grow F H F' H' → SlV G H F' H' s v → Q v H'
  | none => False
/-- an operation by values answers as f -/
def Op2 (G : Gx) (r : R2) (f : D → D → Option Sl) : Prop := ∀ F H d e x y Q, Same F H → Rd G F H d x → Rd G F H e y → okS G F H Q (f d e) → r x y H Q
def Op1 (G : Gx) (r : V → Hp → VK → Prop) (f : D → Option Sl) : Prop := ∀ F H d x Q, Same F H → Rd G F H d x → okS G F H Q (f d) → r x H Q
def OpN (G : Gx) (r : List V → Hp → VK → Prop) (f : List D → Option Sl) : Prop := ∀ F H ds xs Q, Same F H → Rds G F H ds xs → okS G F H Q (f ds) → r xs H Q

def giv (ρ : EV) : Option Sl → Out (Rv × EV)
  | some s => .ok (s.rv, ρ)
  | none => .bad
theorem post_giv {G : Gx} {E : XK} {F H : Hp} {σ : St} {ρ : EV} {Q : VK} {o : Option Sl} (e : EnvR G F H ρ σ) (h : Post G E F H σ ρ Q (giv ρ o)) : okS G F H Q o := by
  cases o with
  | none => exact h
  | some s => exact fun F' H' v g r => h F' H' v (g.stp e) r.res
def mVar (i : Nat) : EV → Out (Rv × EV) := fun ρ => match ρ[i]? with
  | some (some (.val d)) => .ok (.val d, ρ)
  | some (some (.own _)) => .ok (.ref i, ρ)
  | _ => .bad
def mC (d : D) : EV → Out (Rv × EV) := fun ρ => .ok (.val d, ρ)
def m2 (f : D → D → Option Sl) (a b : EV → Out (Rv × EV)) : EV → Out (Rv × EV) := fun ρ => (fzO (a ρ)).bind fun x => (fzO (b x.2)).bind fun y =>
  match rdv y.2 x.1, rdv y.2 y.1 with
  | some d, some e => giv y.2 (f d e)
  | _, _ => .bad
def m1 (f : D → Option Sl) (a : EV → Out (Rv × EV)) : EV → Out (Rv × EV) := fun ρ => (fzO (a ρ)).bind fun x =>
  match rdv x.2 x.1 with
  | some d => giv x.2 (f d)
  | _ => .bad
section
variable {G : Gx} {E : XK} {X : Cx} {K : PySem.W.Frag} {cl : Str → Addr} {ta tb tc : TE} {ma mb mc : EV → Out (Rv × EV)} {a b c : Expr} {pos : Pos}
theorem md_var (i : Nat) : Md G E (tVar i) (mVar i) := fun F H ρ σ Q e p => by
  unfold mVar at p
  revert p
  cases q : ρ[i]? with
  | none => exact False.elim
  | some x =>
    cases x with
    | none => exact False.elim
    | some x =>
      cases x with
      | val d => intro p; obtain ⟨v, h, r⟩ := e.val i d q; exact ⟨v, h, p F H v (.refl e) r⟩
      | own d => intro p; obtain ⟨a, h, f, o⟩ := e.own i d q; exact ⟨.ref a, h, p F H _ (.refl e) ⟨h, d, q⟩⟩
theorem md_c {v : V} {d : D} (r : ∀ F, R G F d v) : Md G E (tC v) (mC d) := fun F H ρ σ Q e p => p F H v (.refl e) (r F)
/-- the first part of a chain of parts: its frozen result -/
theorem Md.then (ha : Md G E ta ma) {F H : Hp} {ρ : EV} {σ : St} {Q : VK} {β : Type} {okc : β → Prop} {k : Rv × EV → Out β} (e : EnvR G F H ρ σ)
    (p : PostG okc (XC G E F H σ ρ) ((fzO (ma ρ)).bind k))
    (h : ∀ F1 H1 ρ1 r v, Stp G F H ρ F1 H1 ρ1 σ → (∀ d, r ≠ .own d) → ResR G H1 F1 H1 ρ1 σ r v → PostG okc (XC G E F1 H1 σ ρ1) (k (r, ρ1)) → Q v H1) : ta σ H Q := by
  refine ha.fz F H ρ σ Q e ?_
  rw [post_bind] at p
  have z : ∀ r ρ1, fzO (ma ρ) = .ok (r, ρ1) → ∀ d, r ≠ .own d := by
    intro r ρ1 q d
    cases y : ma ρ with
    | bad => rw [y] at q; cases q
    | ex c f ρ' => rw [y] at q; cases q
    | ok x => rw [y] at q; obtain ⟨r', ρ'⟩ := x; simp only [fzO] at q; injection q with q; injection q with q1 q2; rw [← q1]; exact fz_own _ _
  revert p z
  dsimp only
  cases fzO (ma ρ) with
  | bad => exact fun p _ => p
  | ex c f ρ' => exact fun p _ => p
  | ok x =>
    intro p z F1 H1 v s r
    exact h F1 H1 x.2 x.1 v s (z x.1 x.2 rfl) (r.hb (z x.1 x.2 rfl)) (PostG.imp (show PostG okc (XC G E F H σ ρ) (k x) from p) (fun _ q => q) fun c fs ρ q => q.step s)
theorem md_2 {r : R2} {f : D → D → Option Sl} (ho : Op2 G r f) (ha : Md G E ta ma) (hb : Md G E tb mb) : Md G E (tOp r ta tb) (m2 f ma mb) := fun F H ρ σ Q e p => by
  unfold m2 at p
  refine ha.then e p fun F1 H1 ρ1 x v s hx rx p1 => ?_
  refine hb.then s.env p1 fun F2 H2 ρ2 y w s2 hy ry p2 => ?_
  revert p2
  dsimp only
  cases qx : rdv ρ2 x with
  | none => exact False.elim
  | some d =>
    cases qy : rdv ρ2 y with
    | none => exact False.elim
    | some e' => exact fun p2 => ho F2 H2 d e' v w Q s2.env.same ((rx.step s2 hx).rd s2.env qx) (ry.rd s2.env qy) (post_giv s2.env (PostG.imp p2 (fun _ q => q.step (s.trans s2) e) fun _ _ _ q => q))
theorem md_1 {r : V → Hp → VK → Prop} {f : D → Option Sl} (ho : Op1 G r f) (ha : Md G E ta ma) : Md G E (tUn r ta) (m1 f ma) := fun F H ρ σ Q e p => by
  unfold m1 at p
  refine ha.then e p fun F1 H1 ρ1 x v s hx rx p1 => ?_
  revert p1
  dsimp only
  cases qx : rdv ρ1 x with
  | none => exact False.elim
  | some d => exact fun p2 => ho F1 H1 d v Q s.env.same (rx.rd s.env qx) (post_giv s.env (PostG.imp p2 (fun _ q => q.step s e) fun _ _ _ q => q))
/-! ### tests -/
theorem mdT_of {tt : TT} (h : Md G E ta ma) (ht : ∀ σ H Q, ta σ H (fun x H' => ∃ k, x = .bl k ∧ Q k H') → tt σ H Q) : MdT G E tt (fun ρ => (fzO (ma ρ)).bind fun x => match rdv x.2 x.1 with
    | some (.bool k) => .ok (k, x.2)
    | _ => .bad) := fun F H ρ σ Q e p => by
  refine ht _ _ _ (h.then e p fun F1 H1 ρ1 r v s hr rr p1 => ?_)
  revert p1
  dsimp only
  cases q : rdv ρ1 r with
  | none => exact False.elim
  | some d =>
    cases d with
    | bool k =>
      intro p1
      have z : v = .bl k := rr.rd s.env q
      exact ⟨k, z, p1 F1 H1 s⟩
    | _ => exact False.elim
/-- a value that is a bool, as a test -/
def mB (a : EV → Out (Rv × EV)) : EV → Out (Bool × EV) := fun ρ => (fzO (a ρ)).bind fun x => match rdv x.2 x.1 with
    | some (.bool k) => .ok (k, x.2)
    | _ => .bad
theorem sq_val (h : SE X K cl E a ta ma) (he : ∀ whole, isTrue a X.env whole = (do let v ← whole; standAt a.pos; holding [v] (truthy v)) := by intro _; rfl) : SQ X K cl E a (L2.tB ta) (mB ma) :=
  ⟨pt_val h.1 he, mdT_of h.2 fun _ _ _ q => q⟩
theorem sq_cmp {op : CmpOp} {r : R2} {f : D → D → Option Sl} (ho : OpR X (compareOp op) r) (hf : Op2 ⟨K, cl⟩ r f) (ha : SE X K cl E a ta ma) (hb : SE X K cl E b tb mb) (hm : behindInMarks op b = false) : SQ X K cl E (.Compare a [op] [b] pos) (tTest (tOp r ta tb)) (mB (m2 f ma mb)) :=
  ⟨pt_cmpR ho ha.1 hb.1 hm, mdT_of (md_2 hf ha.2 hb.2) fun _ _ _ q => q⟩
theorem se_cmp {op : CmpOp} {r : R2} {f : D → D → Option Sl} (ho : OpR X (compareOp op) r) (hf : Op2 ⟨K, cl⟩ r f) (ha : SE X K cl E a ta ma) (hb : SE X K cl E b tb mb) (hm : behindInMarks op b = false) : SE X K cl E (.Compare a [op] [b] pos) (tOp r ta tb) (m2 f ma mb) :=
  ⟨pe_cmpR ho ha.1 hb.1 hm, md_2 hf ha.2 hb.2⟩
theorem se_bin {op : Operator} {r : R2} {f : D → D → Option Sl} (ho : OpR X (binaryOp op) r) (hf : Op2 ⟨K, cl⟩ r f) (ha : SE X K cl E a ta ma) (hb : SE X K cl E b tb mb) : SE X K cl E (.BinOp a op b pos) (tOp r ta tb) (m2 f ma mb) :=
  ⟨pe_op ho ha.1 hb.1, md_2 hf ha.2 hb.2⟩
theorem se_un {op : UnaryOp} {r : V → Hp → VK → Prop} {f : D → Option Sl} (ho : UnR X (unaryOp op) r) (hf : Op1 ⟨K, cl⟩ r f) (ha : SE X K cl E a ta ma) : SE X K cl E (.UnaryOp op a pos) (tUn r ta) (m1 f ma) :=
  ⟨pe_un ho ha.1, md_1 hf ha.2⟩
theorem se_ix {r : R2} {f : D → D → Option Sl} (hr : IxR X r) (hf : Op2 ⟨K, cl⟩ r f) (ha : SE X K cl E a ta ma) (hb : SE X K cl E b tb mb) (hs : PlainIx b := by exact fun _ _ => rfl) : SE X K cl E (.Subscript a b pos) (tOp r ta tb) (m2 f ma mb) :=
  ⟨pe_ix hr ha.1 hb.1 hs, md_2 hf ha.2 hb.2⟩
/-! a op b op' c -/
def mCh (f g : D → D → Option Sl) (a b c : EV → Out (Rv × EV)) : EV → Out (Rv × EV) := fun ρ => (fzO (a ρ)).bind fun x => (fzO (b x.2)).bind fun y =>
  match rdv y.2 x.1, rdv y.2 y.1 with
  | some d, some e => match f d e with
    | some (.val (.bool true)) => (fzO (c y.2)).bind fun z => match rdv z.2 y.1, rdv z.2 z.1 with
      | some e', some k => giv z.2 (g e' k)
      | _, _ => .bad
    | some (.val (.bool false)) => .ok (.val (.bool false), y.2)
    | _ => .bad
  | _, _ => .bad
theorem md_ch {r r' : R2} {f g : D → D → Option Sl} (ho : Op2 G r f) (ho' : Op2 G r' g) (ha : Md G E ta ma) (hb : Md G E tb mb) (hc : Md G E tc mc) : Md G E (tChain r r' ta tb tc) (mCh f g ma mb mc) := fun F H ρ σ Q e p => by
  unfold mCh at p
  refine ha.then e p fun F1 H1 ρ1 x v s hx rx p1 => ?_
  refine hb.then s.env p1 fun F2 H2 ρ2 y w s2 hy ry p2 => ?_
  revert p2
  dsimp only
  cases qx : rdv ρ2 x with
  | none => exact False.elim
  | some d =>
    cases qy : rdv ρ2 y with
    | none => exact False.elim
    | some e' =>
      dsimp only
      intro p2
      refine ho F2 H2 d e' v w _ s2.env.same ((rx.step s2 hx).rd s2.env qx) (ry.rd s2.env qy) ?_
      revert p2
      cases f d e' with
      | none => exact False.elim
      | some sl =>
        cases sl with
        | own d => exact False.elim
        | val d =>
          cases d with
          | bool k =>
            cases k with
            | false =>
              intro p2 F3 H3 u g3 ru
              have z : u = .bl false := R.rd g3.sub ru
              refine ⟨false, z, iteF ?_⟩
              exact (p2.step (s.trans s2) e) F3 H3 _ (g3.stp s2.env) (.bl false)
            | true =>
              intro p2 F3 H3 u g3 ru
              have z : u = .bl true := R.rd g3.sub ru
              refine ⟨true, z, iteT ?_⟩
              have s3 := g3.stp s2.env
              refine hc.then s3.env (PostG.imp p2 (fun _ q => q) fun _ _ _ q => q.step s3) fun F4 H4 ρ4 k z s4 hk rk p4 => ?_
              revert p4
              dsimp only
              cases q4 : rdv ρ4 y with
              | none => exact False.elim
              | some d4 =>
                cases q5 : rdv ρ4 k with
                | none => exact False.elim
                | some d5 =>
                  intro p4
                  exact ho' F4 H4 d4 d5 w z Q s4.env.same (((ry.step s3 hy).step s4 hy).rd s4.env q4) (rk.rd s4.env q5) (post_giv s4.env (PostG.imp p4 (fun _ q => q.step (((s.trans s2).trans s3).trans s4) e) fun _ _ _ q => q))
          | _ => exact False.elim
theorem se_ch {op op' : CmpOp} {r r' : R2} {f g : D → D → Option Sl} (ho : OpR X (compareOp op) r) (hf : Op2 ⟨K, cl⟩ r f) (ho' : OpR X (compareOp op') r') (hg : Op2 ⟨K, cl⟩ r' g) (ha : SE X K cl E a ta ma) (hb : SE X K cl E b tb mb) (hc : SE X K cl E c tc mc)
    (hm : lastMarks [op, op'] [b, c] = false := by with_unfolding_all rfl) : SE X K cl E (.Compare a [op, op'] [b, c] pos) (tChain r r' ta tb tc) (mCh f g ma mb mc) :=
  ⟨pe_chain ho ho' ha.1 hb.1 hc.1 hm, md_ch hf hg ha.2 hb.2 hc.2⟩
theorem sq_ch {op op' : CmpOp} {r r' : R2} {f g : D → D → Option Sl} (ho : OpR X (compareOp op) r) (hf : Op2 ⟨K, cl⟩ r f) (ho' : OpR X (compareOp op') r') (hg : Op2 ⟨K, cl⟩ r' g) (ha : SE X K cl E a ta ma) (hb : SE X K cl E b tb mb) (hc : SE X K cl E c tc mc)
    (hm : lastMarks [op, op'] [b, c] = false := by with_unfolding_all rfl) : SQ X K cl E (.Compare a [op, op'] [b, c] pos) (tTest (tChain r r' ta tb tc)) (mB (mCh f g ma mb mc)) :=
  ⟨pt_chain ho ho' ha.1 hb.1 hc.1 hm, mdT_of (md_ch hf hg ha.2 hb.2 hc.2) fun _ _ _ q => q⟩
/-! and, or, not -/
variable {na nb : EV → Out (Bool × EV)} {rest : List Expr}
def mAnd (a b : EV → Out (Bool × EV)) : EV → Out (Bool × EV) := fun ρ => (a ρ).bind fun x => if x.1 = true then b x.2 else .ok (false, x.2)
def mOr (a b : EV → Out (Bool × EV)) : EV → Out (Bool × EV) := fun ρ => (a ρ).bind fun x => if x.1 = true then .ok (true, x.2) else b x.2
def mNot (a : EV → Out (Bool × EV)) : EV → Out (Bool × EV) := fun ρ => (a ρ).bind fun x => .ok (!x.1, x.2)
theorem OkcT.step {F H F' H' : Hp} {σ : St} {ρ ρ' : EV} {Q : Bool → Hp → Prop} {x : Bool × EV} (s : Stp G F H ρ F' H' ρ' σ) (h : OkcT G F H σ ρ Q x) : OkcT G F' H' σ ρ' Q x :=
  fun F2 H2 s2 => h F2 H2 (s.trans s2)
theorem MdT.then {tt : TT} (ha : MdT G E tt na) {F H : Hp} {ρ : EV} {σ : St} {Q : Bool → Hp → Prop} {β : Type} {okc : β → Prop} {k : Bool × EV → Out β} (e : EnvR G F H ρ σ)
    (p : PostG okc (XC G E F H σ ρ) ((na ρ).bind k))
    (h : ∀ F1 H1 ρ1 r, Stp G F H ρ F1 H1 ρ1 σ → PostG okc (XC G E F1 H1 σ ρ1) (k (r, ρ1)) → Q r H1) : tt σ H Q := by
  refine ha F H ρ σ Q e ?_
  rw [post_bind] at p
  revert p
  cases na ρ with
  | bad => exact fun p => p
  | ex c f ρ' => exact fun p => p
  | ok x =>
    intro p F1 H1 s
    exact h F1 H1 x.2 x.1 s (PostG.imp (show PostG okc (XC G E F H σ ρ) (k x) from p) (fun _ q => q) fun c fs ρ q => q.step s)
theorem mdT_and {tt tu : TT} (ha : MdT G E tt na) (hb : MdT G E tu nb) : MdT G E (tAnd tt tu) (mAnd na nb) := fun F H ρ σ Q e p => by
  refine ha.then e p fun F1 H1 ρ1 k s p1 => ?_
  cases k with
  | true => exact iteT (hb F1 H1 ρ1 σ Q s.env (PostG.imp p1 (fun _ q => q.step s) fun _ _ _ q => q))
  | false => exact iteF (p1 F1 H1 s)
theorem mdT_or {tt tu : TT} (ha : MdT G E tt na) (hb : MdT G E tu nb) : MdT G E (tOr tt tu) (mOr na nb) := fun F H ρ σ Q e p => by
  refine ha.then e p fun F1 H1 ρ1 k s p1 => ?_
  cases k with
  | true => exact iteT (p1 F1 H1 s)
  | false => exact iteF (hb F1 H1 ρ1 σ Q s.env (PostG.imp p1 (fun _ q => q.step s) fun _ _ _ q => q))
theorem mdT_not {tt : TT} (ha : MdT G E tt na) : MdT G E (tNot tt) (mNot na) := fun F H ρ σ Q e p => by
  refine ha.then e p fun F1 H1 ρ1 k s p1 => ?_
  exact p1 F1 H1 s
theorem sw_and1 {t : TT} (h : SQ X K cl E a t na) : SW X K cl E (.BoolOp .And [a] pos) t na := ⟨pw_and1 h.1, h.2⟩
theorem sw_or1 {t : TT} (h : SQ X K cl E a t na) : SW X K cl E (.BoolOp .Or [a] pos) t na := ⟨pw_or1 h.1, h.2⟩
theorem sw_and {t u : TT} (h : SQ X K cl E a t na) (k : SW X K cl E (.BoolOp .And (b :: rest) pos) u nb) : SW X K cl E (.BoolOp .And (a :: b :: rest) pos) (tAnd t u) (mAnd na nb) := ⟨pw_and h.1 k.1, mdT_and h.2 k.2⟩
theorem sw_or {t u : TT} (h : SQ X K cl E a t na) (k : SW X K cl E (.BoolOp .Or (b :: rest) pos) u nb) : SW X K cl E (.BoolOp .Or (a :: b :: rest) pos) (tOr t u) (mOr na nb) := ⟨pw_or h.1 k.1, mdT_or h.2 k.2⟩
theorem sq_w {t : TT} (h : SW X K cl E a t na) : SQ X K cl E a t na := ⟨h.1.pt, h.2⟩
theorem sq_not {t : TT} (h : SQ X K cl E a t na) : SQ X K cl E (.UnaryOp .Not a pos) (tNot t) (mNot na) := ⟨pt_not h.1, mdT_not h.2⟩
/-- and, or, not as values (all but the last a bool) -/
def mAndV (a b : EV → Out (Rv × EV)) : EV → Out (Rv × EV) := fun ρ => (mB a ρ).bind fun x => if x.1 = true then b x.2 else .ok (.val (.bool false), x.2)
def mOrV (a b : EV → Out (Rv × EV)) : EV → Out (Rv × EV) := fun ρ => (mB a ρ).bind fun x => if x.1 = true then .ok (.val (.bool true), x.2) else b x.2
def mNotV (a : EV → Out (Rv × EV)) : EV → Out (Rv × EV) := fun ρ => (mB a ρ).bind fun x => .ok (.val (.bool !x.1), x.2)
theorem md_andV (ha : Md G E ta ma) (hb : Md G E tb mb) : Md G E (tAndV ta tb) (mAndV ma mb) := fun F H ρ σ Q e p => by
  refine (mdT_of (tt := fun σ H Q => ta σ H fun x H' => ∃ k, x = .bl k ∧ Q k H') ha fun _ _ _ q => q).then (Q := fun c H1 => if c = true then tb σ H1 Q else Q (.bl false) H1) e p fun F1 H1 ρ1 k s p1 => ?_
  cases k with
  | true => exact iteT (hb F1 H1 ρ1 σ Q s.env (PostG.imp p1 (fun _ q => q.step s e) fun _ _ _ q => q))
  | false => exact iteF ((p1.step s e) F1 H1 _ (.refl s.env) (.bl false))
theorem md_orV (ha : Md G E ta ma) (hb : Md G E tb mb) : Md G E (tOrV ta tb) (mOrV ma mb) := fun F H ρ σ Q e p => by
  refine (mdT_of (tt := fun σ H Q => ta σ H fun x H' => ∃ k, x = .bl k ∧ Q k H') ha fun _ _ _ q => q).then (Q := fun c H1 => if c = true then Q (.bl true) H1 else tb σ H1 Q) e p fun F1 H1 ρ1 k s p1 => ?_
  cases k with
  | true => exact iteT ((p1.step s e) F1 H1 _ (.refl s.env) (.bl true))
  | false => exact iteF (hb F1 H1 ρ1 σ Q s.env (PostG.imp p1 (fun _ q => q.step s e) fun _ _ _ q => q))
theorem md_notV (ha : Md G E ta ma) : Md G E (tNotV ta) (mNotV ma) := fun F H ρ σ Q e p => by
  refine (mdT_of (tt := fun σ H Q => ta σ H fun x H' => ∃ k, x = .bl k ∧ Q k H') ha fun _ _ _ q => q).then (Q := fun c H1 => Q (.bl (!c)) H1) e p fun F1 H1 ρ1 k s p1 => ?_
  exact (p1.step s e) F1 H1 _ (.refl s.env) (.bl _)
theorem se_one {op} (h : SE X K cl E a ta ma) : SE X K cl E (.BoolOp op [a] pos) ta ma := ⟨pe_one h.1, h.2⟩
theorem se_and (h : SE X K cl E a ta ma) (k : SE X K cl E (.BoolOp .And (b :: rest) pos) tb mb) : SE X K cl E (.BoolOp .And (a :: b :: rest) pos) (tAndV ta tb) (mAndV ma mb) := ⟨pe_and h.1 k.1, md_andV h.2 k.2⟩
theorem se_or (h : SE X K cl E a ta ma) (k : SE X K cl E (.BoolOp .Or (b :: rest) pos) tb mb) : SE X K cl E (.BoolOp .Or (a :: b :: rest) pos) (tOrV ta tb) (mOrV ma mb) := ⟨pe_or h.1 k.1, md_orV h.2 k.2⟩
theorem se_not (h : SE X K cl E a ta ma) : SE X K cl E (.UnaryOp .Not a pos) (tNotV ta) (mNotV ma) := ⟨pe_not h.1, md_notV h.2⟩
def mIte (c : EV → Out (Bool × EV)) (a b : EV → Out (Rv × EV)) : EV → Out (Rv × EV) := fun ρ => (c ρ).bind fun x => if x.1 = true then a x.2 else b x.2
theorem md_ite {tt : TT} (hc : MdT G E tt na) (ha : Md G E ta ma) (hb : Md G E tb mb) : Md G E (tIf tt ta tb) (mIte na ma mb) := fun F H ρ σ Q e p => by
  refine hc.then e p fun F1 H1 ρ1 k s p1 => ?_
  cases k with
  | true => exact iteT (ha F1 H1 ρ1 σ Q s.env (PostG.imp p1 (fun _ q => q.step s e) fun _ _ _ q => q))
  | false => exact iteF (hb F1 H1 ρ1 σ Q s.env (PostG.imp p1 (fun _ q => q.step s e) fun _ _ _ q => q))
theorem se_ite {t : TT} (hc : SQ X K cl E c t na) (h : SE X K cl E a ta ma) (k : SE X K cl E b tb mb) : SE X K cl E (.IfExp c a b pos) (tIf t ta tb) (mIte na ma mb) := ⟨pe_ifExp hc.1 h.1 k.1, md_ite hc.2 h.2 k.2⟩
/-! names and constants -/
theorem se_var (i : Nat) {x : Str} (hN : X.N[i]? = some x := by rfl) (hv : Vis X.env.scope x := by first | exact Or.inl rfl | exact Or.inr (Or.inl rfl) | exact Or.inr (Or.inr rfl)) (hd : (x == ("__debug__" : Str)) = false := by decide)
    (hcd : (x == ("__classdict__" : Str)) = false := by decide) : SE X K cl E (.Name x pos) (tVar i) (mVar i) := ⟨pe_var hN hv hd hcd, md_var i⟩
theorem se_int {i j} : SE X K cl E (.Constant (.int i) j pos) (tC (.int i)) (mC (.int i)) := ⟨pe_int, md_c fun _ => .int _⟩
theorem se_bl {b j} : SE X K cl E (.Constant (.bool b) j pos) (tC (.bl b)) (mC (.bool b)) := ⟨pe_bl, md_c fun _ => .bl _⟩
theorem se_non {j} : SE X K cl E (.Constant .none j pos) (tC .non) (mC .none) := ⟨pe_non, md_c fun _ => .non⟩
theorem se_str {x j} : SE X K cl E (.Constant (.str x) j pos) (tC (.str x)) (mC (.str x)) := ⟨pe_str, md_c fun _ => .str _⟩
theorem se_glob {x : Str} {d : D} {v : V} {u : Value} (hm : X.mg x = some u) (r : RelV v u) (hr : ∀ F, R ⟨K, cl⟩ F d v) (hg : Gl X x := by rfl) (hd : (x == ("__debug__" : Str)) = false := by decide) : SE X K cl E (.Name x pos) (tC v) (mC d) := ⟨pe_glob hg hm r hd, md_c hr⟩
end
end Fr
namespace Fr
open PySem L2

section
variable {G : Gx} {E : XK} {X : Cx} {K : PySem.W.Frag} {cl : Str → Addr} {ta tb tc : TE} {ma mb mc : EV → Out (Rv × EV)} {a b c e : Expr} {es : List Expr} {pos : Pos} {F H F' H' : Hp} {ρ ρ' : EV} {σ : St}
/-! ### arguments -/
def aNil : EV → Out (List Rv × EV) := fun ρ => .ok ([], ρ)
def aCons (a : EV → Out (Rv × EV)) (r : EV → Out (List Rv × EV)) : EV → Out (List Rv × EV) := fun ρ => (fzO (a ρ)).bind fun x => (r x.2).bind fun y => .ok (x.1 :: y.1, y.2)
theorem OkcA.step {Q : List V → Hp → Prop} {x : List Rv × EV} (s : Stp G F H ρ F' H' ρ' σ) (h : OkcA G F H σ ρ Q x) : OkcA G F' H' σ ρ' Q x :=
  fun F2 H2 vs s2 => h F2 H2 vs (s.trans s2)
theorem MdA.then {t : TA} {m : EV → Out (List Rv × EV)} (ha : MdA G E t m) {Q : List V → Hp → Prop} {β : Type} {okc : β → Prop} {k : List Rv × EV → Out β} (e : EnvR G F H ρ σ)
    (p : PostG okc (XC G E F H σ ρ) ((m ρ).bind k))
    (h : ∀ F1 H1 ρ1 rs vs, Stp G F H ρ F1 H1 ρ1 σ → ResRs G F1 H1 ρ1 σ rs vs → PostG okc (XC G E F1 H1 σ ρ1) (k (rs, ρ1)) → Q vs H1) : t σ H Q := by
  refine ha F H ρ σ Q e ?_
  rw [post_bind] at p
  revert p
  cases m ρ with
  | bad => exact fun p => p
  | ex c f ρ' => exact fun p => p
  | ok x =>
    intro p F1 H1 vs s r
    exact h F1 H1 x.2 x.1 vs s r (PostG.imp (show PostG okc (XC G E F H σ ρ) (k x) from p) (fun _ q => q) fun c fs ρ q => q.step s)
def rdvs (ρ : EV) : List Rv → Option (List D)
  | [] => some []
  | r :: rs => match rdv ρ r, rdvs ρ rs with
    | some d, some ds => some (d :: ds)
    | _, _ => none
theorem ResRs.rd {rs : List Rv} {vs : List V} (e : EnvR G F H ρ σ) (h : ResRs G F H ρ σ rs vs) : ∀ ds, rdvs ρ rs = some ds → Rds G F H ds vs := by
  induction h with
  | nil => intro ds q; simp [rdvs] at q; subst q; exact .nil
  | @cons r v rs vs hr rr t ih =>
    intro ds q
    simp only [rdvs] at q
    cases hd : rdv ρ r with
    | none => rw [hd] at q; cases q
    | some d =>
      cases hds : rdvs ρ rs with
      | none => rw [hd, hds] at q; cases q
      | some ds' =>
        rw [hd, hds] at q
        injection q with q
        subst q
        exact .cons (rr.rd e hd) (ih _ hds)
theorem sa_nil : SA X K cl E [] tNil aNil := ⟨pa_nil, fun F H ρ σ Q e p => p F H [] (.refl e) .nil⟩
theorem mdA_cons {t : TA} {m : EV → Out (List Rv × EV)} (ha : Md G E ta ma) (hr : MdA G E t m) : MdA G E (tCons ta t) (aCons ma m) := fun F H ρ σ Q e p => by
  refine ha.then e p fun F1 H1 ρ1 x v s hx rx p1 => ?_
  refine hr.then s.env p1 fun F2 H2 ρ2 rs vs s2 r2 p2 => ?_
  exact p2 F2 H2 _ (s.trans s2) (.cons hx ((rx.step s2 hx).hb hx) r2)
theorem sa_cons {t : TA} {m : EV → Out (List Rv × EV)} (ha : SE X K cl E e ta ma) (hr : SA X K cl E es t m) (hs : starEach (e :: es) X.env = (false, eval e X.env) :: starEach es X.env := by rfl) : SA X K cl E (e :: es) (tCons ta t) (aCons ma m) :=
  ⟨pa_cons ha.1 hr.1 hs, mdA_cons ha.2 hr.2⟩
/-- a built-in called with values -/
def mN (f : List D → Option Sl) (as : EV → Out (List Rv × EV)) : EV → Out (Rv × EV) := fun ρ => (as ρ).bind fun x => match rdvs x.2 x.1 with
  | some ds => giv x.2 (f ds)
  | none => .bad
theorem md_N {r : List V → Hp → VK → Prop} {f : List D → Option Sl} {t : TA} {m : EV → Out (List Rv × EV)} (ho : OpN G r f) (ha : MdA G E t m) : Md G E (tCB r t) (mN f m) := fun F H ρ σ Q e p => by
  refine ha.then e p fun F1 H1 ρ1 rs vs s rr p1 => ?_
  revert p1
  dsimp only
  cases q : rdvs ρ1 rs with
  | none => exact False.elim
  | some ds => exact fun p1 => ho F1 H1 ds vs Q s.env.same (rr.rd s.env ds q) (post_giv s.env (PostG.imp p1 (fun _ q => q.step s e) fun _ _ _ q => q))
theorem se_callB {id : String} {r : List V → Hp → VK → Prop} {f : List D → Option Sl} {x : Str} {p : Pos} {t : TA} {m : EV → Out (List Rv × EV)} (hc : CallR X (.builtin id) r) (hf : OpN ⟨K, cl⟩ r f) (hm : X.mg x = none) (hv : bootBuiltins x = some (.builtin id)) (ha : SA X K cl E (e :: es) t m) (hg : Gl X x := by rfl) (hn : x ≠ "__name__" := by decide)
    (hdb : (x == ("__debug__" : Str)) = false := by decide) (he : starEach (e :: es) X.env = (false, eval e X.env) :: starEach es X.env := by rfl) (hpl : (backTo pos (starEach es X.env)).any (·.1) = false := by rfl) : SE X K cl E (.Call (.Name x p) (e :: es) [] pos) (tCB r t) (mN f m) :=
  ⟨pe_callB hc hg hm hv ha.1 hn hdb he hpl, md_N hf ha.2⟩
theorem se_callTy {T : String} {r : List V → Hp → VK → Prop} {f : List D → Option Sl} {x : Str} {p : Pos} {t : TA} {m : EV → Out (List Rv × EV)} (hc : CallR X (.type T) r) (hf : OpN ⟨K, cl⟩ r f) (hm : X.mg x = none) (hv : bootBuiltins x = some (.type T)) (ha : SA X K cl E (e :: es) t m) (hg : Gl X x := by rfl) (hn : x ≠ "__name__" := by decide)
    (hdb : (x == ("__debug__" : Str)) = false := by decide) (he : starEach (e :: es) X.env = (false, eval e X.env) :: starEach es X.env := by rfl) (hpl : (backTo pos (starEach es X.env)).any (·.1) = false := by rfl) : SE X K cl E (.Call (.Name x p) (e :: es) [] pos) (tCB r t) (mN f m) :=
  ⟨pe_callTy hc hg hm hv ha.1 hn hdb he hpl, md_N hf ha.2⟩
/-! ### displays -/
def mTup (as : EV → Out (List Rv × EV)) : EV → Out (Rv × EV) := fun ρ => (as ρ).bind fun x => match vals x.1 with
  | some ds => if ds.length ≤ sizeLine then .ok (.val (.tuple ds), x.2) else .bad
  | none => .bad
where vals : List Rv → Option (List D)
  | [] => some []
  | .val d :: r => (vals r).map (d :: ·)
  | _ :: _ => none
def mLst (as : EV → Out (List Rv × EV)) : EV → Out (Rv × EV) := fun ρ => (as ρ).bind fun x => match mTup.vals x.1 with
  | some ds => if ds.length ≤ sizeLine then .ok (.own (.list ds), x.2) else .bad
  | none => .bad
theorem ResRs.vals {rs : List Rv} {vs : List V} (h : ResRs G F H ρ σ rs vs) : ∀ ds, mTup.vals rs = some ds → Rs G F ds vs := by
  induction h with
  | nil => intro ds q; simp [mTup.vals] at q; subst q; exact .nil
  | @cons r v rs vs hr r' t ih =>
    intro ds q
    cases r with
    | val d =>
      simp only [mTup.vals] at q
      cases z : mTup.vals rs with
      | none => rw [z] at q; cases q
      | some ds' =>
        rw [z] at q
        simp only [Option.map_some] at q
        injection q with q
        subst q
        exact .cons r' (ih _ z)
    | own d => cases q
    | ref i => cases q
theorem Grow.put {a : Addr} {o : HO} (s : Same F H) (n : H a = none) : Grow F H (upd F a o) (upd H a o) where
  fr := same_upd (s.free n)
  sub := fun b x q => by
    by_cases z : b = a
    · subst z; rw [upd_same] at q ⊢; exact q
    · rw [upd_ne z] at q ⊢; exact s _ _ q
  new := fun b x q => by
    by_cases z : b = a
    · subst z; exact .inr n
    · rw [upd_ne z] at q; exact .inl q
  keep := same_upd n
/-- a new object beside: not frozen -/
theorem Grow.beside {a : Addr} {o : HO} (s : Same F H) (n : H a = none) : Grow F H F (upd H a o) :=
  ⟨.refl _, s.trans (same_upd n), fun _ _ h => .inl h, same_upd n⟩
theorem md_tup {t : TA} {m : EV → Out (List Rv × EV)} (ha : MdA G E t m) : Md G E (tTup t) (mTup m) := fun F H ρ σ Q e p => by
  refine ha.then e p fun F1 H1 ρ1 rs vs s rr p1 => ?_
  revert p1
  dsimp only
  cases q : mTup.vals rs with
  | none => exact False.elim
  | some ds =>
    dsimp only
    have r := rr.vals ds q
    by_cases hl : ds.length ≤ sizeLine
    · rw [if_pos hl]
      intro p1
      refine ⟨by rw [r.length]; exact hl, fun p n => ?_⟩
      have g : Grow F1 H1 (upd F1 p (.tup vs)) (upd H1 p (.tup vs)) := .put s.env.same n
      exact (p1.step s e) _ _ _ (g.stp s.env) (R.tup (.of upd_same) (r.mono g.fr))
    · rw [if_neg hl]; exact False.elim
theorem md_lst {t : TA} {m : EV → Out (List Rv × EV)} (ha : MdA G E t m) : Md G E (tLst t) (mLst m) := fun F H ρ σ Q e p => by
  refine ha.then e p fun F1 H1 ρ1 rs vs s rr p1 => ?_
  revert p1
  dsimp only
  cases q : mTup.vals rs with
  | none => exact False.elim
  | some ds =>
    dsimp only
    have r := rr.vals ds q
    by_cases hl : ds.length ≤ sizeLine
    · rw [if_pos hl]
      intro p1
      refine ⟨by rw [r.length]; exact hl, fun p n => ?_⟩
      have g : Grow F1 H1 F1 (upd H1 p (.lst vs)) := .beside s.env.same n
      exact (p1.step s e) _ _ _ (g.stp s.env) ⟨p, rfl, s.env.same.free n, n, vs, upd_same, r⟩
    · rw [if_neg hl]; exact False.elim
theorem se_tup {x1} {t : TA} {m : EV → Out (List Rv × EV)} (h : SA X K cl E es t m) : SE X K cl E (.Tuple es x1 pos) (tTup t) (mTup m) := ⟨pe_tup h.1, md_tup h.2⟩
theorem se_lst {t : TA} {m : EV → Out (List Rv × EV)} (h : SA X K cl E es t m) : SE X K cl E (.List es pos) (tLst t) (mLst m) := ⟨pe_lst h.1, md_lst h.2⟩

/-! ### the call of a def -/
abbrev Mf := EV → Out (Rv × EV)
def SpF (G : Gx) (mf : Mf) : Sp := fun vs H Q E => ∃ F as, EnvR G F H as (vs.map some) ∧ (∀ x ∈ as, x ≠ none) ∧ Post G E F H (vs.map some) as Q (mf as)
def argOf (ρ : EV) : Rv → Option Sl
  | .val d => some (.val d)
  | .own _ => none
  | .ref i => match ρ[i]? with
    | some (some (.own d)) => some (.own d)
    | _ => none
def posOf (i : Nat) : List Rv → Nat → Option Nat
  | [], _ => none
  | .ref j :: r, k => if j = i then some k else posOf i r (k + 1)
  | _ :: r, k => posOf i r (k + 1)
/-- no slot twice -/
def ndR : List Rv → Bool
  | [] => true
  | .ref j :: r => (posOf j r 0).isNone && ndR r
  | _ :: r => ndR r
/-- the caller's slots behind the call -/
def wb (ρ : EV) (rs : List Rv) (as : EV) : EV := ρ.mapIdx fun i x => match posOf i rs 0 with
  | some k => (as[k]?).getD x
  | none => x
def callF (mf : Mf) (ρ : EV) (rs : List Rv) : Out (Rv × EV) := if ndR rs = true then
    match mf (rs.map (argOf ρ)) with
    | .ok (.ref _, _) => .bad
    | .ok (r, as) => .ok (r, wb ρ rs as)
    | .ex c f as => .ex c f (wb ρ rs as)
    | .bad => .bad
  else .bad
theorem posOf_shift (i : Nat) : ∀ (rs : List Rv) (k n : Nat), posOf i rs (k + n) = (posOf i rs k).map (· + n)
  | [], k, n => rfl
  | .val d :: r, k, n => by
    simp only [posOf]; rw [Nat.add_right_comm]; exact posOf_shift i r (k + 1) n
  | .own d :: r, k, n => by
    simp only [posOf]; rw [Nat.add_right_comm]; exact posOf_shift i r (k + 1) n
  | .ref j :: r, k, n => by
    simp only [posOf]
    by_cases h : j = i
    · rw [if_pos h, if_pos h]; rfl
    · rw [if_neg h, if_neg h]; rw [Nat.add_right_comm]; exact posOf_shift i r (k + 1) n
theorem posOf_get (i : Nat) : ∀ (rs : List Rv) (k : Nat), posOf i rs 0 = some k → rs[k]? = some (.ref i)
  | [], k, h => by cases h
  | .val d :: r, k, h => by
    simp only [posOf] at h
    rw [posOf_shift i r 0 1] at h
    cases q : posOf i r 0 with
    | none => rw [q] at h; cases h
    | some z => rw [q] at h; simp only [Option.map_some] at h; injection h with h; subst h; simpa using posOf_get i r z q
  | .own d :: r, k, h => by
    simp only [posOf] at h
    rw [posOf_shift i r 0 1] at h
    cases q : posOf i r 0 with
    | none => rw [q] at h; cases h
    | some z => rw [q] at h; simp only [Option.map_some] at h; injection h with h; subst h; simpa using posOf_get i r z q
  | .ref j :: r, k, h => by
    simp only [posOf] at h
    by_cases e : j = i
    · rw [if_pos e] at h; injection h with h; subst h; subst e; rfl
    · rw [if_neg e] at h
      rw [posOf_shift i r 0 1] at h
      cases q : posOf i r 0 with
      | none => rw [q] at h; cases h
      | some z => rw [q] at h; simp only [Option.map_some] at h; injection h with h; subst h; simpa using posOf_get i r z q
theorem posOf_none (i : Nat) : ∀ (rs : List Rv) (n : Nat), posOf i rs n = none → ∀ k : Nat, rs[k]? ≠ some (.ref i)
  | [], n, h, k => by simp
  | .val d :: r, n, h, k => by
    cases k with
    | zero => simp
    | succ k => simpa using posOf_none i r (n + 1) h k
  | .own d :: r, n, h, k => by
    cases k with
    | zero => simp
    | succ k => simpa using posOf_none i r (n + 1) h k
  | .ref j :: r, n, h, k => by
    simp only [posOf] at h
    by_cases e : j = i
    · rw [if_pos e] at h; cases h
    · rw [if_neg e] at h
      cases k with
      | zero => simpa using e
      | succ k => simpa using posOf_none i r (n + 1) h k
theorem ndR_inj : ∀ (rs : List Rv), ndR rs = true → ∀ i j k : Nat, rs[j]? = some (.ref i) → rs[k]? = some (.ref i) → j = k
  | [], _, i, j, k, h, _ => by simp at h
  | .val d :: r, n, i, j, k, h1, h2 => by
    cases j with
    | zero => simp at h1
    | succ j =>
      cases k with
      | zero => simp at h2
      | succ k => rw [ndR_inj r n i j k (by simpa using h1) (by simpa using h2)]
  | .own d :: r, n, i, j, k, h1, h2 => by
    cases j with
    | zero => simp at h1
    | succ j =>
      cases k with
      | zero => simp at h2
      | succ k => rw [ndR_inj r n i j k (by simpa using h1) (by simpa using h2)]
  | .ref z :: r, n, i, j, k, h1, h2 => by
    simp only [ndR, Bool.and_eq_true, Option.isNone_iff_eq_none] at n
    cases j with
    | zero =>
      simp at h1
      subst h1
      cases k with
      | zero => rfl
      | succ k => exact (posOf_none z r 0 n.1 k (by simpa using h2)).elim
    | succ j =>
      cases k with
      | zero => simp at h2; subst h2; exact (posOf_none z r 0 n.1 j (by simpa using h1)).elim
      | succ k => rw [ndR_inj r n.2 i j k (by simpa using h1) (by simpa using h2)]
theorem ResRs.len {rs : List Rv} {vs : List V} (h : ResRs G F H ρ σ rs vs) : vs.length = rs.length := by
  induction h with
  | nil => rfl
  | cons _ _ _ ih => simp [ih]
theorem ResRs.at {rs : List Rv} {vs : List V} (h : ResRs G F H ρ σ rs vs) : ∀ (k : Nat) (r : Rv), rs[k]? = some r → ∃ v, vs[k]? = some v ∧ ResR G H F H ρ σ r v ∧ ∀ d, r ≠ .own d := by
  induction h with
  | nil => intro k r q; simp at q
  | cons hr r t ih =>
    intro k r' q
    cases k with
    | zero => simp at q; subst q; exact ⟨_, rfl, r, hr⟩
    | succ k => simpa using ih k r' (by simpa using q)
theorem map_at {α β : Type} (f : α → β) (l : List α) (i : Nat) (y : β) : (l.map f)[i]? = some y ↔ ∃ x, l[i]? = some x ∧ f x = y := by
  rw [List.getElem?_map]
  cases l[i]? <;> simp
/-- the callee's slots -/
theorem ResRs.env {rs : List Rv} {vs : List V} (e : EnvR G F H ρ σ) (n : ndR rs = true) (h : ResRs G F H ρ σ rs vs) : EnvR G F H (rs.map (argOf ρ)) (vs.map some) ∧ ∀ x ∈ rs.map (argOf ρ), x ≠ none := by
  have own : ∀ (k : Nat) (d : D), (rs.map (argOf ρ))[k]? = some (some (Sl.own d)) → ∃ i a, rs[k]? = some (.ref i) ∧ ρ[i]? = some (some (Sl.own d)) ∧ σ[i]? = some (some (V.ref a)) ∧ vs[k]? = some (V.ref a) := by
    intro k d q
    obtain ⟨r, h1, h2⟩ := (map_at _ _ _ _).mp q
    obtain ⟨v, h3, h4, h5⟩ := h.at k r h1
    cases r with
    | val x => cases h2
    | own x => cases h2
    | ref i =>
      obtain ⟨k1, y, k2⟩ := h4
      simp only [argOf, k2] at h2
      injection h2 with h2; injection h2 with h2
      subst h2
      obtain ⟨a, z1, z2, z3⟩ := e.own i y k2
      rw [k1] at z1
      injection z1 with z1; injection z1 with z1
      subst z1
      exact ⟨i, a, h1, k2, k1, h3⟩
  refine ⟨⟨e.same, by simp [h.len], ?_, ?_, ?_⟩, ?_⟩
  · intro k d q
    obtain ⟨r, h1, h2⟩ := (map_at _ _ _ _).mp q
    obtain ⟨v, h3, h4, h5⟩ := h.at k r h1
    cases r with
    | val x => simp only [argOf] at h2; injection h2 with h2; injection h2 with h2; subst h2; exact ⟨v, (map_at _ _ _ _).mpr ⟨v, h3, rfl⟩, h4⟩
    | own x => cases h2
    | ref i =>
      obtain ⟨k1, y, k2⟩ := h4
      simp only [argOf, k2] at h2
      injection h2 with h2; cases h2
  · intro k d q
    obtain ⟨i, a, h1, h2, h3, h4⟩ := own k d q
    obtain ⟨b, z1, z2, z3⟩ := e.own i d h2
    rw [h3] at z1
    injection z1 with z1; injection z1 with z1; injection z1 with z1
    subst z1
    exact ⟨a, (map_at _ _ _ _).mpr ⟨_, h4, rfl⟩, z2, z3⟩
  · rintro j k b ⟨⟨d, q1⟩, q2⟩ ⟨⟨d', q3⟩, q4⟩
    obtain ⟨i, a, h1, h2, h3, h4⟩ := own j d q1
    obtain ⟨i', a', h1', h2', h3', h4'⟩ := own k d' q3
    obtain ⟨x, y1, y2⟩ := (map_at _ _ _ _).mp q2
    obtain ⟨x', y1', y2'⟩ := (map_at _ _ _ _).mp q4
    rw [h4] at y1; rw [h4'] at y1'
    injection y1 with y1; injection y1' with y1'
    subst y1; subst y1'
    injection y2 with y2; injection y2' with y2'
    injection y2 with y2; injection y2' with y2'
    rw [y2] at h3; rw [y2'] at h3'
    have : i = i' := e.ne i i' b ⟨⟨d, h2⟩, h3⟩ ⟨⟨d', h2'⟩, h3'⟩
    subst this
    exact ndR_inj rs n i j k h1 h1'
  · intro x hx q
    subst q
    obtain ⟨r, h1, h2⟩ := List.mem_map.mp hx
    obtain ⟨k, h3⟩ := List.mem_iff_getElem?.mp h1
    obtain ⟨v, h4, h5, h6⟩ := h.at k r h3
    cases r with
    | val x => cases h2
    | own x => exact h6 x rfl
    | ref i => obtain ⟨k1, y, k2⟩ := h5; simp only [argOf, k2] at h2; cases h2
/-- behind the call -/
theorem ResRs.back {rs : List Rv} {vs : List V} {as : EV} (e : EnvR G F H ρ σ) (n : ndR rs = true) (h : ResRs G F H ρ σ rs vs) (s : Stp G F H (rs.map (argOf ρ)) F' H' as (vs.map some)) : Stp G F H ρ F' H' (wb ρ rs as) σ := by
  have ec := (h.env e n).1
  have get : ∀ i : Nat, (wb ρ rs as)[i]? = (ρ[i]?).map fun x => match posOf i rs 0 with
      | some k => (as[k]?).getD x
      | none => x := fun i => by simp [wb]
  have some_of : ∀ (i k : Nat), posOf i rs 0 = some k → ∃ d d' a, ρ[i]? = some (some (Sl.own d)) ∧ as[k]? = some (some (Sl.own d')) ∧ σ[i]? = some (some (V.ref a)) ∧ (vs.map some)[k]? = some (some (V.ref a)) ∧ (rs.map (argOf ρ))[k]? = some (some (Sl.own d)) := by
    intro i k q
    have h1 := posOf_get i rs k q
    obtain ⟨v, h2, ⟨h3, d, h4⟩, _⟩ := h.at k _ h1
    obtain ⟨a, z1, z2, z3⟩ := e.own i d h4
    rw [h3] at z1
    injection z1 with z1; injection z1 with z1
    subst z1
    have h5 : (rs.map (argOf ρ))[k]? = some (some (Sl.own d)) := (map_at _ _ _ _).mpr ⟨_, h1, by simp only [argOf, h4]⟩
    rcases s.mode k with ⟨x, x', m1, m2⟩ | ⟨m1, m2⟩
    · exact ⟨d, x', a, h4, m2, h3, (map_at _ _ _ _).mpr ⟨_, h2, rfl⟩, h5⟩
    · exact (m1 d h5).elim
  have ow : ∀ (k : Nat) (a : Addr), Ow (rs.map (argOf ρ)) (vs.map some) k a → ∃ i, Ow ρ σ i a ∧ posOf i rs 0 = some k := by
    rintro k a ⟨⟨d, q1⟩, q2⟩
    obtain ⟨r, h1, h2⟩ := (map_at _ _ _ _).mp q1
    obtain ⟨v, h3, h4, h5⟩ := h.at k r h1
    cases r with
    | val x => cases h2
    | own x => cases h2
    | ref i =>
      obtain ⟨k1, y, k2⟩ := h4
      obtain ⟨x, y1, y2⟩ := (map_at _ _ _ _).mp q2
      rw [h3] at y1
      injection y1 with y1; subst y1
      injection y2 with y2; subst y2
      refine ⟨i, ⟨⟨y, k2⟩, k1⟩, ?_⟩
      cases z : posOf i rs 0 with
      | none => exact (posOf_none i rs 0 z k h1).elim
      | some k' => rw [ndR_inj rs n i k' k (posOf_get i rs k' z) h1]
  have mode : ∀ i : Nat, (∃ d d' : D, ρ[i]? = some (some (Sl.own d)) ∧ (wb ρ rs as)[i]? = some (some (Sl.own d'))) ∨ ((∀ d : D, ρ[i]? ≠ some (some (Sl.own d))) ∧ (wb ρ rs as)[i]? = ρ[i]?) := by
    intro i
    rw [get]
    cases q : posOf i rs 0 with
    | some k =>
      obtain ⟨d, d', a, h1, h2, h3, h4, h5⟩ := some_of i k q
      exact .inl ⟨d, d', h1, by rw [h1]; simp [h2]⟩
    | none =>
      cases z : ρ[i]? with
      | none => exact .inr ⟨by simp, rfl⟩
      | some x =>
        cases x with
        | none => exact .inr ⟨by simp, rfl⟩
        | some x =>
          cases x with
          | val d => exact .inr ⟨by simp, rfl⟩
          | own d => exact .inl ⟨d, d, rfl, rfl⟩
  have owb : ∀ (i : Nat) (a : Addr), Ow (wb ρ rs as) σ i a ↔ Ow ρ σ i a := by
    intro i a
    rcases mode i with ⟨d, d', h1, h2⟩ | ⟨h1, h2⟩
    · exact ⟨fun ⟨_, q⟩ => ⟨⟨d, h1⟩, q⟩, fun ⟨_, q⟩ => ⟨⟨d', h2⟩, q⟩⟩
    · exact ⟨fun ⟨⟨e, p⟩, q⟩ => (h1 e (h2 ▸ p)).elim, fun ⟨⟨e, p⟩, q⟩ => (h1 e p).elim⟩
  refine ⟨s.fr, ⟨s.env.same, by simp [wb, e.len], ?_, ?_, ?_⟩, s.new, ?_, mode⟩
  · intro i d q
    rcases mode i with ⟨x, x', h1, h2⟩ | ⟨h1, h2⟩
    · rw [h2] at q; injection q with q; cases q
    · rw [h2] at q
      obtain ⟨v, k1, k2⟩ := e.val i d q
      exact ⟨v, k1, k2.mono s.fr⟩
  · intro i d q
    cases z : posOf i rs 0 with
    | some k =>
      obtain ⟨x, x', a, h1, h2, h3, h4, h5⟩ := some_of i k z
      rw [get, h1, z] at q
      simp [h2] at q
      subst q
      obtain ⟨b, k1, k2, k3⟩ := s.env.own k _ h2
      rw [h4] at k1
      injection k1 with k1; injection k1 with k1; injection k1 with k1
      subst k1
      exact ⟨a, h3, k2, k3⟩
    | none =>
      rw [get, z] at q
      have q' : ρ[i]? = some (some (Sl.own d)) := by
        cases y : ρ[i]? with
        | none => rw [y] at q; cases q
        | some x => rw [y] at q; simpa using q
      obtain ⟨a, k1, k2, k3⟩ := e.own i d q'
      obtain ⟨x, hx⟩ := k3.there
      have nw : ∀ k, ¬ Ow (rs.map (argOf ρ)) (vs.map some) k a := fun k w => by
        obtain ⟨j, w1, w2⟩ := ow k a w
        have : i = j := e.ne i j a ⟨⟨d, q'⟩, k1⟩ w1
        subst this
        rw [z] at w2; cases w2
      refine ⟨a, k1, ?_, (k3.mono s.fr).at ((s.keep a x hx nw).trans hx.symm)⟩
      cases y : F' a with
      | none => rfl
      | some o =>
        rcases s.new a o y with u | u
        · rw [k2] at u; cases u
        · rw [hx] at u; cases u
  · exact fun i j a h1 h2 => e.ne i j a ((owb i a).mp h1) ((owb j a).mp h2)
  · intro a o h1 h2
    exact s.keep a o h1 fun k w => by
      obtain ⟨j, w1, w2⟩ := ow k a w
      exact h2 j w1
/-- a def called: from its promise -/
theorem call_ok {rs : List Rv} {vs : List V} {mf : Mf} {Q : VK} (e : EnvR G F H ρ σ) (h : ResRs G F H ρ σ rs vs) (p : Post G E F H σ ρ Q (callF mf ρ rs)) : SpF G mf vs H Q E := by
  unfold callF at p
  revert p
  by_cases n : ndR rs = true
  · rw [if_pos n]
    intro p
    obtain ⟨ec, hn⟩ := h.env e n
    refine ⟨F, _, ec, hn, ?_⟩
    revert p
    cases mf (rs.map (argOf ρ)) with
    | bad => exact id
    | ex c f as => exact fun p F' H' cls dd s x => p F' H' cls dd (h.back e n s) x
    | ok x =>
      obtain ⟨r, as⟩ := x
      cases r with
      | ref i => exact False.elim
      | val d => exact fun p F' H' v s r => p F' H' v (h.back e n s) r
      | own d => exact fun p F' H' v s r => p F' H' v (h.back e n s) r
  · rw [if_neg n]; exact False.elim
/-- f(..): dds the defaults' data -/
def mFn (mf : Mf) (dds : List D) (as : EV → Out (List Rv × EV)) : EV → Out (Rv × EV) := fun ρ => (as ρ).bind fun x => callF mf x.2 (x.1 ++ dds.map Rv.val)
theorem ResRs.more {rs : List Rv} {vs : List V} {dds : List D} {dvs : List V} (h : ResRs G F H ρ σ rs vs) (hd : Rs G F dds dvs) : ResRs G F H ρ σ (rs ++ dds.map Rv.val) (vs ++ dvs) := by
  induction h with
  | nil =>
    simp only [List.nil_append]
    induction dds generalizing dvs with
    | nil => cases hd; exact .nil
    | cons d ds ih =>
      cases hd with
      | cons q t => exact .cons (by simp) q (ih t)
  | cons hr r t ih => exact .cons hr r ih
theorem md_fn {mf : Mf} {dds : List D} {dvs : List V} {t : TA} {m : EV → Out (List Rv × EV)} (hd : ∀ F, Rs G F dds dvs) (ha : MdA G E t m) : Md G E (tCall (SpF G mf) dvs E t) (mFn mf dds m) := fun F H ρ σ Q e p => by
  refine ha.then e p fun F1 H1 ρ1 rs vs s rr p1 => ?_
  exact call_ok s.env (rr.more (hd F1)) (PostG.imp p1 (fun _ q => q.step s e) fun _ _ _ q => q)
end
end Fr
namespace Fr
open PySem L2

/-- a def's entry -/
structure An where
  F0 : Hp
  H0 : Hp
  as : EV
  vs : List V
structure StI (G : Gx) (A : An) (F H : Hp) (ρ : EV) (σ : St) : Prop where
  env : EnvR G F H ρ σ
  fr : Same A.F0 F
  new : ∀ a o, F a = some o → A.F0 a = some o ∨ A.H0 a = none
  keep : ∀ a o, A.H0 a = some o → (∀ i, ¬ Ow A.as (A.vs.map some) i a) → H a = some o
  loc : ∀ i a, Ow ρ σ i a → Ow A.as (A.vs.map some) i a ∨ A.H0 a = none
  par : ∀ (i : Nat) (d : D), A.as[i]? = some (some (Sl.own d)) → (∃ d' : D, ρ[i]? = some (some (Sl.own d'))) ∧ σ[i]? = (A.vs.map some)[i]?
inductive Fl where
  | next
  | ret (r : Rv)
  | brk
  | cont
def RetR (G : Gx) (A : An) (F H : Hp) : Rv → V → Prop
  | .val d, v => R G F d v
  | .own d, v => ∃ a, v = .ref a ∧ F a = none ∧ A.H0 a = none ∧ OwnR G F H d a
  | .ref _, _ => False
def OkS (G : Gx) (A : An) (Dn : Ends) : Fl × EV → Prop := fun x => match x.1 with
  | .next => ∀ F' H' σ', StI G A F' H' x.2 σ' → Dn.nx σ' H'
  | .brk => ∀ F' H' σ', StI G A F' H' x.2 σ' → Dn.bk σ' H'
  | .cont => ∀ F' H' σ', StI G A F' H' x.2 σ' → Dn.ct σ' H'
  | .ret r => ∀ F' H' σ' v, StI G A F' H' x.2 σ' → RetR G A F' H' r v → Dn.rt v H'
def XS (G : Gx) (E : XK) (A : An) : Str → List (D × D) → EV → Prop := fun c fs ρ' => ∀ F' H' σ' cls dd, StI G A F' H' ρ' σ' → XR G F' H' c fs cls dd → E cls dd H'
def Ms (G : Gx) (E : XK) (np : Nat) (t : TS) (m : EV → Out (Fl × EV)) : Prop :=
  ∀ A F H ρ σ Dn, A.as.length = np → StI G A F H ρ σ → PostG (OkS G A Dn) (XS G E A) (m ρ) → t Dn σ H
def SS (X : Cx) (K : PySem.W.Frag) (cl : Str → Addr) (E : XK) (np : Nat) (s : Stmt) (t : TS) (m : EV → Out (Fl × EV)) : Prop := PS X s t ∧ Ms ⟨K, cl⟩ E np t m
def SB (X : Cx) (K : PySem.W.Frag) (cl : Str → Addr) (E : XK) (np : Nat) (s : List Stmt) (t : TS) (m : EV → Out (Fl × EV)) : Prop := PSs X s t ∧ Ms ⟨K, cl⟩ E np t m

def isOwn (ρ : EV) (i : Nat) : Bool := match ρ[i]? with
  | some (some (.own _)) => true
  | _ => false
def okSet (np i : Nat) (ρ : EV) : Bool := !(decide (i < np) && isOwn ρ i)
section
variable {G : Gx} {E : XK} {X : Cx} {K : PySem.W.Frag} {cl : Str → Addr} {A : An} {np : Nat} {ta tb tc : TE} {ma mb mc : EV → Out (Rv × EV)} {a b c e : Expr} {es : List Expr} {pos : Pos} {F H F' H' : Hp} {ρ ρ' : EV} {σ σ' : St}
theorem isOwn_iff {ρ : EV} {i : Nat} : isOwn ρ i = true ↔ ∃ d : D, ρ[i]? = some (some (Sl.own d)) := by
  unfold isOwn
  cases ρ[i]? with
  | none => simp
  | some x => cases x with
    | none => simp
    | some x => cases x <;> simp
theorem StI.stp (s : StI G A F H ρ σ) (t : Stp G F H ρ F' H' ρ' σ) : StI G A F' H' ρ' σ where
  env := t.env
  fr := s.fr.trans t.fr
  new := fun a o h => by
    rcases t.new a o h with q | q
    · exact s.new a o q
    · cases z : A.H0 a with
      | none => exact .inr rfl
      | some x =>
        by_cases w : ∃ i, Ow A.as (A.vs.map some) i a
        · obtain ⟨i, ⟨d, w1⟩, w2⟩ := w
          obtain ⟨⟨d', k1⟩, k2⟩ := s.par i d w1
          obtain ⟨y, hy⟩ := s.env.there (a := a) ⟨⟨d', k1⟩, by rw [k2]; exact w2⟩
          rw [hy] at q; cases q
        · rw [s.keep a x z (fun i q => w ⟨i, q⟩)] at q; cases q
  keep := fun a o h w => t.keep a o (s.keep a o h w) fun i q => by
    rcases s.loc i a q with k | k
    · exact w i k
    · rw [h] at k; cases k
  loc := fun i a q => s.loc i a ((t.ow i).mp q)
  par := fun i d q => by
    obtain ⟨⟨d', k1⟩, k2⟩ := s.par i d q
    rcases t.mode i with ⟨x, x', h1, h2⟩ | ⟨h1, h2⟩
    · exact ⟨⟨x', h2⟩, k2⟩
    · exact (h1 d' k1).elim
theorem StI.free (s : StI G A F H ρ σ) {a : Addr} (h : H a = none) : A.H0 a = none := by
  cases z : A.H0 a with
  | none => rfl
  | some x =>
    by_cases w : ∃ i, Ow A.as (A.vs.map some) i a
    · obtain ⟨i, ⟨d, w1⟩, w2⟩ := w
      obtain ⟨⟨d', k1⟩, k2⟩ := s.par i d w1
      obtain ⟨y, hy⟩ := s.env.there (a := a) ⟨⟨d', k1⟩, by rw [k2]; exact w2⟩
      rw [hy] at h; cases h
    · rw [s.keep a x z (fun i q => w ⟨i, q⟩)] at h; cases h
theorem StI.grow (s : StI G A F H ρ σ) (g : Grow F H F' H') : StI G A F' H' ρ σ := s.stp (g.stp s.env)
theorem xs_xc {c : Str} {fs : List (D × D)} {ρ' : EV} (s : StI G A F H ρ σ) (h : XS G E A c fs ρ') : XC G E F H σ ρ c fs ρ' := fun F' H' cls dd t x => h F' H' σ cls dd (s.stp t) x

/-! ### slots are set -/
theorem okSet_iff {i : Nat} : okSet np i ρ = true ↔ (i < np → ∀ d : D, ρ[i]? ≠ some (some (Sl.own d))) := by
  unfold okSet
  by_cases h : i < np
  · cases q : isOwn ρ i with
    | false => simp only [h, decide_true, Bool.and_false, Bool.not_false, true_implies, true_iff]; exact fun d z => by rw [isOwn_iff.mpr ⟨d, z⟩] at q; cases q
    | true => obtain ⟨d, z⟩ := isOwn_iff.mp q; simp [h]; exact ⟨d, z⟩
  · simp [h]
theorem get_set {α : Type} (l : List α) (i j : Nat) (x : α) : (l.set i x)[j]? = if i = j then (if i < l.length then some x else none) else l[j]? := by
  rw [List.getElem?_set]
theorem EnvR.setVal {i : Nat} {d : D} {v : V} (e : EnvR G F H ρ σ) (r : R G F d v) : EnvR G F H (ρ.set i (some (.val d))) (σ.set i (some v)) := by
  have key : ∀ (j : Nat) (x : D), (ρ.set i (some (.val d)))[j]? = some (some (Sl.own x)) → i ≠ j ∧ ρ[j]? = some (some (Sl.own x)) := by
    intro j x q
    rw [get_set] at q
    by_cases z : i = j
    · rw [if_pos z] at q
      by_cases y : i < ρ.length
      · rw [if_pos y] at q; injection q with q; cases q
      · rw [if_neg y] at q; cases q
    · rw [if_neg z] at q; exact ⟨z, q⟩
  refine ⟨e.same, by simp [e.len], ?_, ?_, ?_⟩
  · intro j x q
    rw [get_set] at q ⊢
    by_cases z : i = j
    · rw [if_pos z] at q ⊢
      by_cases y : i < ρ.length
      · rw [if_pos y] at q
        rw [if_pos (by rw [← e.len]; exact y)]
        injection q with q; injection q with q; injection q with q
        subst q
        exact ⟨v, rfl, r⟩
      · rw [if_neg y] at q; cases q
    · rw [if_neg z] at q ⊢; exact e.val j x q
  · intro j x q
    obtain ⟨z, q⟩ := key j x q
    rw [get_set, if_neg z]
    exact e.own j x q
  · rintro j k b ⟨⟨x, q1⟩, q2⟩ ⟨⟨y, q3⟩, q4⟩
    obtain ⟨z1, q1⟩ := key j x q1
    obtain ⟨z2, q3⟩ := key k y q3
    rw [get_set, if_neg z1] at q2
    rw [get_set, if_neg z2] at q4
    exact e.ne j k b ⟨⟨x, q1⟩, q2⟩ ⟨⟨y, q3⟩, q4⟩
theorem EnvR.setOwn {i : Nat} {d : D} {a : Addr} (e : EnvR G F H ρ σ) (f : F a = none) (o : OwnR G F H d a) (n : ∀ j, ¬ Ow ρ σ j a) : EnvR G F H (ρ.set i (some (.own d))) (σ.set i (some (.ref a))) := by
  have key : ∀ (j : Nat) (b : Addr), Ow (ρ.set i (some (.own d))) (σ.set i (some (.ref a))) j b → (i = j ∧ b = a) ∨ (i ≠ j ∧ Ow ρ σ j b) := by
    rintro j b ⟨⟨x, q1⟩, q2⟩
    rw [get_set] at q1 q2
    by_cases z : i = j
    · rw [if_pos z] at q2
      by_cases y : i < σ.length
      · rw [if_pos y] at q2
        injection q2 with q2; injection q2 with q2; injection q2 with q2
        exact .inl ⟨z, q2.symm⟩
      · rw [if_neg y] at q2; cases q2
    · rw [if_neg z] at q1 q2
      exact .inr ⟨z, ⟨x, q1⟩, q2⟩
  refine ⟨e.same, by simp [e.len], ?_, ?_, ?_⟩
  · intro j x q
    rw [get_set] at q ⊢
    by_cases z : i = j
    · rw [if_pos z] at q
      by_cases y : i < ρ.length
      · rw [if_pos y] at q; injection q with q; cases q
      · rw [if_neg y] at q; cases q
    · rw [if_neg z] at q ⊢; exact e.val j x q
  · intro j x q
    rw [get_set] at q ⊢
    by_cases z : i = j
    · rw [if_pos z] at q ⊢
      by_cases y : i < ρ.length
      · rw [if_pos y] at q
        rw [if_pos (by rw [← e.len]; exact y)]
        injection q with q; injection q with q; injection q with q
        subst q
        exact ⟨a, rfl, f, o⟩
      · rw [if_neg y] at q; cases q
    · rw [if_neg z] at q ⊢; exact e.own j x q
  · intro j k b h1 h2
    rcases key j b h1 with ⟨z1, y1⟩ | ⟨z1, y1⟩
    · rcases key k b h2 with ⟨z2, y2⟩ | ⟨z2, y2⟩
      · exact z1.symm.trans z2
      · subst y1; exact (n k y2).elim
    · rcases key k b h2 with ⟨z2, y2⟩ | ⟨z2, y2⟩
      · subst y2; exact (n j y1).elim
      · exact e.ne j k b y1 y2
theorem StI.setVal {i : Nat} {d : D} {v : V} (hn : A.as.length = np) (s : StI G A F H ρ σ) (ok : okSet np i ρ = true) (r : R G F d v) : StI G A F H (ρ.set i (some (.val d))) (σ.set i (some v)) where
  env := s.env.setVal r
  fr := s.fr
  new := s.new
  keep := s.keep
  loc := by
    rintro j b ⟨⟨x, q1⟩, q2⟩
    rw [get_set] at q1 q2
    by_cases z : i = j
    · rw [if_pos z] at q1
      by_cases y : i < ρ.length
      · rw [if_pos y] at q1; injection q1 with q1; cases q1
      · rw [if_neg y] at q1; cases q1
    · rw [if_neg z] at q1 q2
      exact s.loc j b ⟨⟨x, q1⟩, q2⟩
  par := by
    intro j x q
    obtain ⟨⟨d', k1⟩, k2⟩ := s.par j x q
    have z : i ≠ j := fun z => okSet_iff.mp ok (by
      rw [z, ← hn]
      exact (List.getElem?_eq_some_iff.mp q).1) d' (z ▸ k1)
    exact ⟨⟨d', by rw [get_set, if_neg z]; exact k1⟩, by rw [get_set, if_neg z]; exact k2⟩
theorem StI.setOwn {i : Nat} {d : D} {a : Addr} (hn : A.as.length = np) (s : StI G A F H ρ σ) (ok : okSet np i ρ = true) (f : F a = none) (o : OwnR G F H d a) (n : ∀ j, ¬ Ow ρ σ j a) (h0 : A.H0 a = none) : StI G A F H (ρ.set i (some (.own d))) (σ.set i (some (.ref a))) where
  env := s.env.setOwn f o n
  fr := s.fr
  new := s.new
  keep := s.keep
  loc := by
    rintro j b ⟨⟨x, q1⟩, q2⟩
    rw [get_set] at q1 q2
    by_cases z : i = j
    · rw [if_pos z] at q2
      by_cases y : i < σ.length
      · rw [if_pos y] at q2
        injection q2 with q2; injection q2 with q2; injection q2 with q2
        subst q2
        exact .inr h0
      · rw [if_neg y] at q2; cases q2
    · rw [if_neg z] at q1 q2
      exact s.loc j b ⟨⟨x, q1⟩, q2⟩
  par := by
    intro j x q
    obtain ⟨⟨d', k1⟩, k2⟩ := s.par j x q
    have z : i ≠ j := fun z => okSet_iff.mp ok (by
      rw [z, ← hn]
      exact (List.getElem?_eq_some_iff.mp q).1) d' (z ▸ k1)
    exact ⟨⟨d', by rw [get_set, if_neg z]; exact k1⟩, by rw [get_set, if_neg z]; exact k2⟩

/-! ### small statements and blocks -/
def sNext : EV → Out (Fl × EV) := fun ρ => .ok (.next, ρ)
def sSeq (a b : EV → Out (Fl × EV)) : EV → Out (Fl × EV) := fun ρ => (a ρ).bind fun x => match x.1 with
  | .next => b x.2
  | f => .ok (f, x.2)
def sIf (c : EV → Out (Bool × EV)) (a b : EV → Out (Fl × EV)) : EV → Out (Fl × EV) := fun ρ => (c ρ).bind fun x => if x.1 = true then a x.2 else b x.2
def sRet (np : Nat) (m : EV → Out (Rv × EV)) : EV → Out (Fl × EV) := fun ρ => (m ρ).bind fun x => match x.1 with
  | .ref i => if i < np then .bad else match x.2[i]? with
    | some (some (.own d)) => .ok (.ret (.own d), x.2)
    | _ => .bad
  | r => .ok (.ret r, x.2)
def sExpr (m : EV → Out (Rv × EV)) : EV → Out (Fl × EV) := fun ρ => (m ρ).bind fun x => .ok (.next, x.2)
variable {t u : TS} {m n : EV → Out (Fl × EV)} {st : Stmt} {rest : List Stmt}
theorem ms_seq (h1 : Ms G E np t m) (h2 : Ms G E np u n) : Ms G E np (tSeq t u) (sSeq m n) := fun A F H ρ σ Dn hn s p => by
  refine h1 A F H ρ σ _ hn s ?_
  unfold sSeq at p
  rw [post_bind] at p
  refine PostG.imp p (fun x q => ?_) fun _ _ _ q => q
  revert q
  obtain ⟨f, ρ1⟩ := x
  cases f with
  | next => exact fun q F' H' σ' s' => h2 A F' H' ρ1 σ' Dn hn s' q
  | ret r => exact id
  | brk => exact id
  | cont => exact id
theorem sb_nil : SB X K cl E np [] tNext sNext := ⟨pss_nil, fun A F H ρ σ Dn hn s p => p F H σ s⟩
theorem sb_cons (h : SS X K cl E np st t m) (k : SB X K cl E np rest u n) : SB X K cl E np (st :: rest) (tSeq t u) (sSeq m n) := ⟨pss_cons h.1 k.1, ms_seq h.2 k.2⟩
theorem sb_one (h : SS X K cl E np st t m) : SB X K cl E np [st] t m := ⟨pss_one h.1, h.2⟩
theorem ss_pass : SS X K cl E np (.Pass pos) tNext sNext := ⟨ps_pass, fun A F H ρ σ Dn hn s p => p F H σ s⟩
def sBrk : EV → Out (Fl × EV) := fun ρ => .ok (.brk, ρ)
def sCont : EV → Out (Fl × EV) := fun ρ => .ok (.cont, ρ)
def sBad : EV → Out (Fl × EV) := fun _ => .bad
theorem ss_break : SS X K cl E np (.Break pos) tBreak sBrk := ⟨ps_break, fun A F H ρ σ Dn hn s p => p F H σ s⟩
theorem ss_continue : SS X K cl E np (.Continue pos) tCont sCont := ⟨ps_continue, fun A F H ρ σ Dn hn s p => p F H σ s⟩
theorem ss_never : SS X K cl E np st tNever sBad := ⟨ps_never, fun A F H ρ σ Dn hn s p => p⟩
theorem sb_never : SB X K cl E np rest tNever sBad := ⟨pss_never, fun A F H ρ σ Dn hn s p => p⟩
theorem Md.thenS (ha : Md G E ta ma) {Q : VK} {β : Type} {okc : β → Prop} {k : Rv × EV → Out β} (s : StI G A F H ρ σ) (p : PostG okc (XS G E A) ((ma ρ).bind k))
    (h : ∀ F1 H1 ρ1 r v, StI G A F1 H1 ρ1 σ → Stp G F H ρ F1 H1 ρ1 σ → ResR G H F1 H1 ρ1 σ r v → PostG okc (XS G E A) (k (r, ρ1)) → Q v H1) : ta σ H Q := by
  refine ha F H ρ σ Q s.env ?_
  rw [post_bind] at p
  revert p
  cases ma ρ with
  | bad => exact fun p => p
  | ex c f ρ' => exact fun p => xs_xc s p
  | ok x => exact fun p F1 H1 v t r => h F1 H1 x.2 x.1 v (s.stp t) t r p
theorem MdT.thenS {tt : TT} {na : EV → Out (Bool × EV)} (ha : MdT G E tt na) {Q : Bool → Hp → Prop} {β : Type} {okc : β → Prop} {k : Bool × EV → Out β} (s : StI G A F H ρ σ) (p : PostG okc (XS G E A) ((na ρ).bind k))
    (h : ∀ F1 H1 ρ1 r, StI G A F1 H1 ρ1 σ → PostG okc (XS G E A) (k (r, ρ1)) → Q r H1) : tt σ H Q := by
  refine ha F H ρ σ Q s.env ?_
  rw [post_bind] at p
  revert p
  cases na ρ with
  | bad => exact fun p => p
  | ex c f ρ' => exact fun p => xs_xc s p
  | ok x => exact fun p F1 H1 t => h F1 H1 x.2 x.1 (s.stp t) p
theorem ms_if {tt : TT} {na : EV → Out (Bool × EV)} (hc : MdT G E tt na) (h1 : Ms G E np t m) (h2 : Ms G E np u n) : Ms G E np (tIfS tt t u) (sIf na m n) := fun A F H ρ σ Dn hn s p => by
  refine hc.thenS s p fun F1 H1 ρ1 k s1 p1 => ?_
  cases k with
  | true => exact iteT (h1 A F1 H1 ρ1 σ Dn hn s1 p1)
  | false => exact iteF (h2 A F1 H1 ρ1 σ Dn hn s1 p1)
theorem ss_if {c : Expr} {x y : List Stmt} {na : EV → Out (Bool × EV)} {tt : TT} (hc : SQ X K cl E c tt na) (h : SB X K cl E np x t m) (k : SB X K cl E np y u n) : SS X K cl E np (.If c x y pos) (tIfS tt t u) (sIf na m n) :=
  ⟨ps_if hc.1 h.1 k.1, ms_if hc.2 h.2 k.2⟩
theorem ss_ret (h : SE X K cl E e ta ma) : SS X K cl E np (.Return (some e) pos) (tRet ta) (sRet np ma) := by
  obtain ⟨h1, h2⟩ := h
  refine ⟨ps_ret h1, fun A F H ρ σ Dn hn s p => ?_⟩
  refine h2.thenS s p fun F1 H1 ρ1 r v s1 t1 rr p1 => ?_
  cases r with
  | val d => exact p1 F1 H1 σ v s1 rr
  | own d => obtain ⟨a, k1, k2, k3, k4⟩ := rr; exact p1 F1 H1 σ v s1 ⟨a, k1, k2, s.free k3, k4⟩
  | ref i =>
    obtain ⟨k1, d, k2⟩ := rr
    dsimp only at p1
    by_cases hi : i < np
    · rw [if_pos hi] at p1; exact p1.elim
    · rw [if_neg hi] at p1
      simp only [k2] at p1
      obtain ⟨a, z1, z2, z3⟩ := s1.env.own i d k2
      rw [k1] at z1
      injection z1 with z1; injection z1 with z1
      subst z1
      refine p1 F1 H1 σ _ s1 ⟨a, rfl, z2, ?_, z3⟩
      rcases s1.loc i a ⟨⟨d, k2⟩, k1⟩ with ⟨⟨x, w1⟩, w2⟩ | w
      · exact (hi (hn ▸ (List.getElem?_eq_some_iff.mp w1).1)).elim
      · exact w
theorem ss_retN : SS X K cl E np (.Return none pos) tRetN (fun ρ => .ok (.ret (.val .none), ρ)) := ⟨ps_retN, fun A F H ρ σ Dn hn s p => p F H σ .non s .non⟩
theorem ss_expr (h : SE X K cl E e ta ma) (hs : swapsWith e none pos.line X.env = pure false := by rfl) : SS X K cl E np (.Expr e pos) (tDrop ta) (sExpr ma) := by
  obtain ⟨h1, h2⟩ := h
  refine ⟨ps_expr h1 hs, fun A F H ρ σ Dn hn s p => ?_⟩
  exact h2.thenS s p fun F1 H1 ρ1 r v s1 t1 rr p1 => p1 F1 H1 σ s1

/-! ### name = e -/
def sSetV (np i : Nat) (m : EV → Out (Rv × EV)) : EV → Out (Fl × EV) := fun ρ => (fzO (m ρ)).bind fun x => match x.1 with
  | .val d => if okSet np i x.2 = true then .ok (.next, x.2.set i (some (.val d))) else .bad
  | _ => .bad
def sSetO (np i : Nat) (m : EV → Out (Rv × EV)) : EV → Out (Fl × EV) := fun ρ => (m ρ).bind fun x => match x.1 with
  | .own d => if okSet np i x.2 = true then .ok (.next, x.2.set i (some (.own d))) else .bad
  | _ => .bad
theorem ms_setV {i : Nat} (h : Md G E ta ma) : Ms G E np (tAsg ta (gName i)) (sSetV np i ma) := fun A F H ρ σ Dn hn s p => by
  refine h.fz.thenS s p fun F1 H1 ρ1 r v s1 t1 rr p1 => ?_
  cases r with
  | own d => exact p1.elim
  | ref i => exact p1.elim
  | val d =>
    dsimp only at p1
    by_cases ok : okSet np i ρ1 = true
    · rw [if_pos ok] at p1; exact p1 F1 H1 _ (s1.setVal hn ok rr)
    · rw [if_neg ok] at p1; exact p1.elim
theorem ms_setO {i : Nat} (h : Md G E ta ma) : Ms G E np (tAsg ta (gName i)) (sSetO np i ma) := fun A F H ρ σ Dn hn s p => by
  refine h.thenS s p fun F1 H1 ρ1 r v s1 t1 rr p1 => ?_
  cases r with
  | val d => exact p1.elim
  | ref i => exact p1.elim
  | own d =>
    dsimp only at p1
    by_cases ok : okSet np i ρ1 = true
    · rw [if_pos ok] at p1
      obtain ⟨a, k1, k2, k3, k4⟩ := rr
      subst k1
      refine p1 F1 H1 _ (s1.setOwn hn ok k2 k4 (fun j w => ?_) (s.free k3))
      obtain ⟨y, hy⟩ := s.env.there ((t1.ow j).mp w)
      rw [k3] at hy; cases hy
    · rw [if_neg ok] at p1; exact p1.elim
theorem ss_setV (i : Nat) {x : Str} {pos' : Pos} (hN : X.N.Nodup) (h : SE X K cl E e ta ma) (hi : X.N[i]? = some x := by rfl) (hx : Loc X.env.scope x := by first | exact Or.inl rfl | exact Or.inr rfl) (hs : swapsWith e (some (.Name x pos')) pos.line X.env = pure false := by rfl) (hf : X.fn x = true ∨ X.env.scope.names.lookup x = some .local := by first | exact .inl rfl | exact .inr rfl | assumption) :
    SS X K cl E np (.Assign [.Name x pos'] e pos) (tAsg ta (gName i)) (sSetV np i ma) := ⟨ps_set hN hi hx h.1 hs hf, ms_setV h.2⟩
theorem ss_setO (i : Nat) {x : Str} {pos' : Pos} (hN : X.N.Nodup) (h : SE X K cl E e ta ma) (hi : X.N[i]? = some x := by rfl) (hx : Loc X.env.scope x := by first | exact Or.inl rfl | exact Or.inr rfl) (hs : swapsWith e (some (.Name x pos')) pos.line X.env = pure false := by rfl) (hf : X.fn x = true ∨ X.env.scope.names.lookup x = some .local := by first | exact .inl rfl | exact .inr rfl | assumption) :
    SS X K cl E np (.Assign [.Name x pos'] e pos) (tAsg ta (gName i)) (sSetO np i ma) := ⟨ps_set hN hi hx h.1 hs hf, ms_setO h.2⟩
/-- a slot is frozen: no code -/
def frzE (i : Nat) (ρ : EV) : EV := match ρ[i]? with
  | some (some (.own d)) => ρ.set i (some (.val d))
  | _ => ρ
def sFrz (np i : Nat) (m : EV → Out (Fl × EV)) : EV → Out (Fl × EV) := fun ρ => if okSet np i ρ = true then m (frzE i ρ) else .bad
theorem ms_frz (i : Nat) (h : Ms G E np t m) : Ms G E np t (sFrz np i m) := fun A F H ρ σ Dn hn s p => by
  unfold sFrz at p
  by_cases ok : okSet np i ρ = true
  · rw [if_pos ok] at p
    unfold frzE at p
    cases q : ρ[i]? with
    | none => rw [q] at p; exact h A F H ρ σ Dn hn s p
    | some x =>
      cases x with
      | none => rw [q] at p; exact h A F H ρ σ Dn hn s p
      | some x =>
        cases x with
        | val d => rw [q] at p; exact h A F H ρ σ Dn hn s p
        | own d =>
          rw [q] at p
          obtain ⟨a, k1, k2, k3⟩ := s.env.own i d q
          obtain ⟨o, k4, k5⟩ := k3.frozen k2
          have hne : i < np → False := fun z => okSet_iff.mp ok z d q
          have h0 : A.H0 a = none := by
            rcases s.loc i a ⟨⟨d, q⟩, k1⟩ with ⟨⟨x, w1⟩, w2⟩ | w
            · exact (hne (hn ▸ (List.getElem?_eq_some_iff.mp w1).1)).elim
            · exact w
          have hi : i < ρ.length := (List.getElem?_eq_some_iff.mp q).1
          have hs : σ.set i (some (.ref a)) = σ := by
            apply List.ext_getElem?
            intro j
            rw [get_set]
            by_cases z : i = j
            · rw [if_pos z, if_pos (by rw [← s.env.len]; exact hi), ← z, k1]
            · rw [if_neg z]
          -- first forget the slot, then freeze, then set it
          have e1 : EnvR G F H (ρ.set i none) σ := by
            have key : ∀ (j : Nat) (x : Sl), (ρ.set i none)[j]? = some (some x) → i ≠ j ∧ ρ[j]? = some (some x) := by
              intro j x y
              rw [get_set] at y
              by_cases z : i = j
              · rw [if_pos z, if_pos hi] at y; injection y with y; cases y
              · rw [if_neg z] at y; exact ⟨z, y⟩
            refine ⟨s.env.same, by simp [s.env.len], fun j x y => s.env.val j x (key j _ y).2, fun j x y => s.env.own j x (key j _ y).2, ?_⟩
            rintro j k b ⟨⟨x, q1⟩, q2⟩ ⟨⟨y, q3⟩, q4⟩
            exact s.env.ne j k b ⟨⟨x, (key j _ q1).2⟩, q2⟩ ⟨⟨y, (key k _ q3).2⟩, q4⟩
          have e2 : EnvR G (upd F a o) H (ρ.set i none) σ := e1.freeze k4 k2 (by
            rintro j ⟨⟨x, q1⟩, q2⟩
            rw [get_set] at q1
            by_cases z : i = j
            · rw [if_pos z, if_pos hi] at q1; injection q1 with q1; cases q1
            · rw [if_neg z] at q1; exact z (s.env.ne i j a ⟨⟨d, q⟩, k1⟩ ⟨⟨x, q1⟩, q2⟩))
          have e3 := e2.setVal (i := i) k5
          rw [hs, List.set_set] at e3
          refine h A (upd F a o) H _ σ Dn hn ⟨e3, s.fr.trans (same_upd k2), ?_, s.keep, ?_, ?_⟩ p
          · intro b y z
            by_cases w : b = a
            · subst w; exact .inr h0
            · rw [upd_ne w] at z; exact s.new b y z
          · rintro j b ⟨⟨x, q1⟩, q2⟩
            rw [get_set] at q1
            by_cases z : i = j
            · rw [if_pos z, if_pos hi] at q1; injection q1 with q1; cases q1
            · rw [if_neg z] at q1; exact s.loc j b ⟨⟨x, q1⟩, q2⟩
          · intro j x y
            obtain ⟨⟨d', w1⟩, w2⟩ := s.par j x y
            have z : i ≠ j := fun z => hne (by
              rw [z, ← hn]
              exact (List.getElem?_eq_some_iff.mp y).1)
            exact ⟨⟨d', by rw [get_set, if_neg z]; exact w1⟩, w2⟩
  · rw [if_neg ok] at p; exact p.elim
theorem ss_frz (i : Nat) (h : SS X K cl E np st t m) : SS X K cl E np st t (sFrz np i m) := ⟨h.1, ms_frz i h.2⟩
theorem sb_frz (i : Nat) (h : SB X K cl E np rest t m) : SB X K cl E np rest t (sFrz np i m) := ⟨h.1, ms_frz i h.2⟩
end
end Fr
namespace Fr
open PySem L2

/-! ### targets -/
/-- slots set to frozen data, one after another, at the places vs -/
inductive Sets (G : Gx) (F : Hp) (np : Nat) (vs : List Nat) (ρ : EV) (σ : St) : EV → St → Prop
  | refl : Sets G F np vs ρ σ ρ σ
  | set {ρ' : EV} {σ' : St} {i : Nat} {d : D} {v : V} : Sets G F np vs ρ σ ρ' σ' → okSet np i ρ' = true → i ∈ vs → R G F d v → Sets G F np vs ρ σ (ρ'.set i (some (.val d))) (σ'.set i (some v))
abbrev Tgm := D → EV → Option EV
def MdG (G : Gx) (np : Nat) (vs : List Nat) (g : TG) (mg : Tgm) : Prop :=
  ∀ F H ρ0 σ0 ρ σ d v Q, Same F H → Sets G F np vs ρ0 σ0 ρ σ → R G F d v → (∃ ρ', mg d ρ = some ρ' ∧ ∀ σ', Sets G F np vs ρ0 σ0 ρ' σ' → Q σ' H) → g v σ H Q
def MdGs (G : Gx) (np : Nat) (vs : List Nat) (g : TGs) (mg : List D → EV → Option EV) : Prop :=
  ∀ F H ρ0 σ0 ρ σ ds ws Q, Same F H → Sets G F np vs ρ0 σ0 ρ σ → Rs G F ds ws → (∃ ρ', mg ds ρ = some ρ' ∧ ∀ σ', Sets G F np vs ρ0 σ0 ρ' σ' → Q σ' H) → g ws σ H Q
def SG (X : Cx) (K : PySem.W.Frag) (cl : Str → Addr) (np : Nat) (vs : List Nat) (tg : Expr) (g : TG) (mg : Tgm) : Prop := PG X tg g ∧ MdG ⟨K, cl⟩ np vs g mg
def SGs (X : Cx) (K : PySem.W.Frag) (cl : Str → Addr) (np : Nat) (vs : List Nat) (tg : List Expr) (g : TGs) (mg : List D → EV → Option EV) : Prop := PGs X tg g ∧ MdGs ⟨K, cl⟩ np vs g mg
def gN (np i : Nat) : Tgm := fun d ρ => if okSet np i ρ = true then some (ρ.set i (some (.val d))) else none
def gsNil : List D → EV → Option EV := fun ds ρ => match ds with
  | [] => some ρ
  | _ => none
def gsCons (g : Tgm) (r : List D → EV → Option EV) : List D → EV → Option EV := fun ds ρ => match ds with
  | d :: ds => (g d ρ).bind fun ρ1 => r ds ρ1
  | [] => none
def gT (n : Nat) (gs : List D → EV → Option EV) : Tgm := fun d ρ => match d with
  | .tuple ds => if ds.length = n then gs ds ρ else none
  | _ => none
section
variable {G : Gx} {E : XK} {X : Cx} {K : PySem.W.Frag} {cl : Str → Addr} {A : An} {np : Nat} {vs : List Nat} {ta tb tc : TE} {ma mb mc : EV → Out (Rv × EV)} {a b c e : Expr} {es : List Expr} {pos : Pos} {F H F' H' : Hp} {ρ ρ' : EV} {σ σ' : St}
theorem sg_name (i : Nat) {x : Str} (hN : X.N.Nodup) (hv : i ∈ vs) (hi : X.N[i]? = some x := by rfl) (hx : Loc X.env.scope x := by first | exact Or.inl rfl | exact Or.inr rfl) (hf : X.fn x = true ∨ X.env.scope.names.lookup x = some .local := by first | exact .inl rfl | exact .inr rfl | assumption) : SG X K cl np vs (.Name x pos) (gName i) (gN np i) :=
  ⟨pg_name hN hi hx hf, fun F H ρ0 σ0 ρ σ d v Q hs s r ⟨ρ', h1, h2⟩ => by
    unfold gN at h1
    by_cases ok : okSet np i ρ = true
    · rw [if_pos ok] at h1; injection h1 with h1; subst h1; exact h2 _ (.set s ok hv r)
    · rw [if_neg ok] at h1; cases h1⟩
theorem sgs_nil : SGs X K cl np vs [] gNil gsNil := ⟨pgs_nil, fun F H ρ0 σ0 ρ σ ds ws Q hs s r ⟨ρ', h1, h2⟩ => by
  cases r with
  | nil => simp only [gsNil] at h1; injection h1 with h1; subst h1; exact ⟨rfl, h2 σ s⟩
  | cons _ _ => simp only [gsNil] at h1; cases h1⟩
theorem sgs_cons {tg : Expr} {tgs : List Expr} {g : TG} {gs : TGs} {m : Tgm} {ms : List D → EV → Option EV} (h : SG X K cl np vs tg g m) (k : SGs X K cl np vs tgs gs ms) (hs : (assignEach (tg :: tgs) X.env).map (·.2) = assign tg X.env :: (assignEach tgs X.env).map (·.2) := by rfl) : SGs X K cl np vs (tg :: tgs) (gCons g gs) (gsCons m ms) :=
  ⟨pgs_cons h.1 k.1 hs, fun F H ρ0 σ0 ρ σ ds ws Q hs s r ⟨ρ', h1, h2⟩ => by
    cases r with
    | nil => cases h1
    | @cons d v ds vs' r1 r2 =>
      simp only [gsCons] at h1
      cases q : m d ρ with
      | none => rw [q] at h1; cases h1
      | some ρ1 =>
        rw [q] at h1
        refine ⟨v, _, rfl, h.2 F H ρ0 σ0 ρ σ d v _ hs s r1 ⟨ρ1, q, fun σ1 s1 => ?_⟩⟩
        exact k.2 F H ρ0 σ0 ρ1 σ1 ds _ Q hs s1 r2 ⟨ρ', h1, h2⟩⟩
theorem sg_tup {tgs : List Expr} {k n kk : Nat} {gs : TGs} {ms : List D → EV → Option EV} (C : Cw X K E kk) (h : SGs X K cl np vs tgs gs ms) (hn : (assignEach tgs X.env).length = n := by rfl) (hst : (assignEach tgs X.env).findIdx? (·.1) = none := by rfl) : SG X K cl np vs (.Tuple tgs k pos) (gTup K n gs) (gT n ms) :=
  ⟨by rw [← C.kq]; exact pg_tup C.calm h.1 hn hst, fun F H ρ0 σ0 ρ σ d v Q hs s r ⟨ρ', h1, h2⟩ => by
    cases r with
    | tup q r =>
      simp only [gT] at h1
      split at h1
      · rename_i hl
        exact ⟨_, _, rfl, sqT_same hs q, r.length.trans hl, h.2 F H ρ0 σ0 ρ σ _ _ Q hs s r ⟨ρ', h1, h2⟩⟩
      · cases h1
    | _ => cases h1⟩
theorem Sets.sti (hn : A.as.length = np) (s : StI G A F H ρ σ) (h : Sets G F np vs ρ σ ρ' σ') : StI G A F H ρ' σ' := by
  induction h with
  | refl => exact s
  | set _ ok _ r ih => exact ih.setVal hn ok r
theorem Sets.env (e : EnvR G F H ρ σ) (h : Sets G F np vs ρ σ ρ' σ') : EnvR G F H ρ' σ' := by
  induction h with
  | refl => exact e
  | set _ ok _ r ih => exact ih.setVal r
theorem wipe_set {σ : St} {i : Nat} {x : Option V} : ∀ {vs : List Nat}, i ∈ vs → wipe (σ.set i x) vs = wipe σ vs
  | v :: vs, h => by
    simp only [wipe]
    by_cases z : i ∈ vs
    · rw [wipe_set z]
    · have : i = v := by
        rcases List.mem_cons.mp h with q | q
        · exact q
        · exact (z q).elim
      subst this
      clear h
      have key : ∀ ws : List Nat, i ∉ ws → wipe (σ.set i x) ws = (wipe σ ws).set i x := by
        intro ws
        induction ws with
        | nil => intro _; rfl
        | cons w ws ih =>
          intro q
          simp only [wipe]
          rw [ih (fun y => q (List.mem_cons_of_mem _ y)), List.set_comm]
          exact fun y => q (y ▸ List.mem_cons_self)
      rw [key vs z, List.set_set]
theorem Sets.wipe (h : Sets G F np vs ρ σ ρ' σ') : wipe σ' vs = wipe σ vs := by
  induction h with
  | refl => rfl
  | set _ ok hv r ih => rw [wipe_set hv]; exact ih

/-! ### what is walked -/
def ItR (G : Gx) (F : Hp) (J : It) (ds : List D) : Prop := ∀ F2 H2, Same F F2 → Same F2 H2 →
  (∀ (i : Nat) (d : D), ds[i]? = some d → J.go i H2 ∧ ∀ x H3, J.yld i H2 x H3 → ∃ F3, Grow F2 H2 F3 H3 ∧ R G F3 d x) ∧ ∀ i, ds.length ≤ i → J.stop i H2
def OkI (G : Gx) (F H : Hp) (σ : St) (ρ : EV) (Q : It → Hp → Prop) : List D × EV → Prop := fun x => ∀ F' H' J, Stp G F H ρ F' H' x.2 σ → ItR G F' J x.1 → Q J H'
def MdI (G : Gx) (E : XK) (wi : TI) (m : EV → Out (List D × EV)) : Prop :=
  ∀ F H ρ σ Q, EnvR G F H ρ σ → PostG (OkI G F H σ ρ Q) (XC G E F H σ ρ) (m ρ) → wi σ H Q
def SI (X : Cx) (K : PySem.W.Frag) (cl : Str → Addr) (E : XK) (tg iter : Expr) (wi : TI) (m : EV → Out (List D × EV)) : Prop := PI X tg iter wi ∧ MdI ⟨K, cl⟩ E wi m
theorem ItR.mono {J : It} {ds : List D} (s : Same F F') (h : ItR G F J ds) : ItR G F' J ds := fun F2 H2 a b => h F2 H2 (s.trans a) b
theorem itR_list {a : Addr} {xs : List V} {ds : List D} (h : F a = some (.lst xs)) (r : Rs G F ds xs) : ItR G F (Itl G.K a) ds := fun F2 H2 s1 s2 => by
  have q : SqL G.K H2 a xs := .of (s2 _ _ (s1 _ _ h))
  refine ⟨fun i d hd => ?_, fun i hi => ⟨xs, q, by rw [r.length]; exact hi⟩⟩
  obtain ⟨v, h1, h2⟩ := r.getD hd
  refine ⟨⟨xs, v, q, h1⟩, ?_⟩
  rintro x H3 ⟨rfl, hx⟩
  have := hx xs q
  rw [h1] at this
  injection this with this
  subst this
  exact ⟨F2, .refl s2, h2.mono s1⟩
theorem itR_tup {a : Addr} {xs : List V} {ds : List D} (h : SqT G.K F a xs) (r : Rs G F ds xs) : ItR G F (Itt G.K a) ds := fun F2 H2 s1 s2 => by
  have q : SqT G.K H2 a xs := sqT_same s2 (sqT_same s1 h)
  refine ⟨fun i d hd => ?_, fun i hi => ⟨xs, q, by rw [r.length]; exact hi⟩⟩
  obtain ⟨v, h1, h2⟩ := r.getD hd
  refine ⟨⟨xs, v, q, h1⟩, ?_⟩
  rintro x H3 ⟨rfl, hx⟩
  have := hx xs q
  rw [h1] at this
  injection this with this
  subst this
  exact ⟨F2, .refl s2, h2.mono s1⟩
def rngD (lo : Int) (n : Nat) : List D := (List.range n).map fun (i : Nat) => .int (lo + (i : Int))
theorem itR_rng {lo : Int} {n : Nat} : ItR G F (Itr lo n) (rngD lo n) := fun F2 H2 s1 s2 => by
  refine ⟨fun i d hd => ?_, fun i hi => by have q := hi; simp [rngD] at q; exact q⟩
  have hl : i < n := by
    have := (List.getElem?_eq_some_iff.mp hd).1
    simpa [rngD] using this
  refine ⟨hl, ?_⟩
  rintro x H3 ⟨rfl, rfl⟩
  have : d = .int (lo + i) := by simp [rngD, List.getElem?_range hl] at hd; exact hd.symm
  subst this
  exact ⟨F2, .refl s2, .int _⟩
/-- over a list (frozen) -/
def iL (m : EV → Out (Rv × EV)) : EV → Out (List D × EV) := fun ρ => (fzO (m ρ)).bind fun x => match x.1 with
  | .val (.list ds) => .ok (ds, x.2)
  | _ => .bad
def iT (m : EV → Out (Rv × EV)) : EV → Out (List D × EV) := fun ρ => (fzO (m ρ)).bind fun x => match x.1 with
  | .val (.tuple ds) => .ok (ds, x.2)
  | _ => .bad
theorem si_list {tg : Expr} {kk : Nat} (C : Cw X K E kk) (h : SE X K cl E e ta ma) : SI X K cl E tg e (iList K ta) (iL ma) := ⟨by rw [← C.kq]; exact pi_list h.1, fun F H ρ σ Q en p => by
  refine h.2.then en p fun F1 H1 ρ1 r v s hr rr p1 => ?_
  cases r with
  | own d => exact p1.elim
  | ref i => exact p1.elim
  | val d =>
    cases d with
    | list ds =>
      cases (show R _ F1 (.list ds) v from rr) with
      | lst q r => exact ⟨_, rfl, ⟨_, .of (s.env.same _ _ q)⟩, p1 F1 H1 _ s (itR_list q r)⟩
    | _ => exact p1.elim⟩
theorem si_tup {tg : Expr} {kk : Nat} (C : Cw X K E kk) (h : SE X K cl E e ta ma) : SI X K cl E tg e (iTup K ta) (iT ma) := ⟨by rw [← C.kq]; exact pi_tup h.1, fun F H ρ σ Q en p => by
  refine h.2.then en p fun F1 H1 ρ1 r v s hr rr p1 => ?_
  cases r with
  | own d => exact p1.elim
  | ref i => exact p1.elim
  | val d =>
    cases d with
    | tuple ds =>
      cases (show R _ F1 (.tuple ds) v from rr) with
      | tup q r => exact ⟨_, rfl, ⟨_, sqT_same s.env.same q⟩, p1 F1 H1 _ s (itR_tup q r)⟩
    | _ => exact p1.elim⟩
def iR1 (m : EV → Out (List Rv × EV)) : EV → Out (List D × EV) := fun ρ => (m ρ).bind fun x => match x.1 with
  | [.val (.int j)] => if -(2 ^ 62) ≤ j ∧ j < 2 ^ 62 then .ok (rngD 0 j.toNat, x.2) else .bad
  | _ => .bad
theorem si_range1 {tg : Expr} {t : TA} {m : EV → Out (List Rv × EV)} {p : Pos} (hm : X.mg "range" = none) (h : SA X K cl E [e] t m) (hg : Gl X "range" := by rfl) (hs : starEach [e] X.env = [(false, eval e X.env)] := by rfl) : SI X K cl E tg (.Call (.Name "range" p) [e] [] pos) (iRng1 t) (iR1 m) := ⟨pi_range1 hg hm h.1 hs, fun F H ρ σ Q en p => by
  refine h.2.then en p fun F1 H1 ρ1 rs ws s rr p1 => ?_
  unfold iR1 at p1
  dsimp only at p1
  split at p1
  · rename_i j
    cases rr with
    | cons hr r1 r2 =>
      cases r2
      by_cases hj : -(2 ^ 62) ≤ j ∧ j < 2 ^ 62
      · rw [if_pos hj] at p1
        cases (show R _ F1 (.int j) _ from r1)
        exact ⟨j, rfl, hj.1, hj.2, p1 F1 H1 _ s itR_rng⟩
      · rw [if_neg hj] at p1; exact p1.elim
  · exact p1.elim⟩
def iR2 (m : EV → Out (List Rv × EV)) : EV → Out (List D × EV) := fun ρ => (m ρ).bind fun x => match x.1 with
  | [.val (.int i), .val (.int j)] => if -(2 ^ 62) ≤ i ∧ i < 2 ^ 62 ∧ -(2 ^ 62) ≤ j ∧ j < 2 ^ 62 then .ok (rngD i (j - i).toNat, x.2) else .bad
  | _ => .bad
theorem si_range2 {tg : Expr} {t : TA} {m : EV → Out (List Rv × EV)} {p : Pos} (hm : X.mg "range" = none) (h : SA X K cl E [e, b] t m) (hg : Gl X "range" := by rfl) (hs : starEach [e, b] X.env = [(false, eval e X.env), (false, eval b X.env)] := by rfl) (hs2 : starEach [b] X.env = [(false, eval b X.env)] := by rfl) : SI X K cl E tg (.Call (.Name "range" p) [e, b] [] pos) (iRng2 t) (iR2 m) := ⟨pi_range2 hg hm h.1 hs hs2, fun F H ρ σ Q en p => by
  refine h.2.then en p fun F1 H1 ρ1 rs ws s rr p1 => ?_
  unfold iR2 at p1
  dsimp only at p1
  split at p1
  · rename_i i j
    cases rr with
    | cons hr r1 r2 =>
      cases r2 with
      | cons hr' r3 r4 =>
        cases r4
        by_cases hj : -(2 ^ 62) ≤ i ∧ i < 2 ^ 62 ∧ -(2 ^ 62) ≤ j ∧ j < 2 ^ 62
        · rw [if_pos hj] at p1
          cases (show R _ F1 (.int i) _ from r1)
          cases (show R _ F1 (.int j) _ from r3)
          exact ⟨i, j, rfl, hj, p1 F1 H1 _ s itR_rng⟩
        · rw [if_neg hj] at p1; exact p1.elim
  · exact p1.elim⟩
theorem MdI.thenS {wi : TI} {m : EV → Out (List D × EV)} (ha : MdI G E wi m) {Q : It → Hp → Prop} {β : Type} {okc : β → Prop} {k : List D × EV → Out β} (s : StI G A F H ρ σ) (p : PostG okc (XS G E A) ((m ρ).bind k))
    (h : ∀ F1 H1 ρ1 ds J, StI G A F1 H1 ρ1 σ → ItR G F1 J ds → PostG okc (XS G E A) (k (ds, ρ1)) → Q J H1) : wi σ H Q := by
  refine ha F H ρ σ Q s.env ?_
  rw [post_bind] at p
  revert p
  cases m ρ with
  | bad => exact fun p => p
  | ex c f ρ' => exact fun p => xs_xc s p
  | ok x => exact fun p F1 H1 J t r => h F1 H1 x.2 x.1 J (s.stp t) r p
theorem MdI.then {wi : TI} {m : EV → Out (List D × EV)} (ha : MdI G E wi m) {Q : It → Hp → Prop} {β : Type} {okc : β → Prop} {k : List D × EV → Out β} (e : EnvR G F H ρ σ) (p : PostG okc (XC G E F H σ ρ) ((m ρ).bind k))
    (h : ∀ F1 H1 ρ1 ds J, Stp G F H ρ F1 H1 ρ1 σ → ItR G F1 J ds → PostG okc (XC G E F1 H1 σ ρ1) (k (ds, ρ1)) → Q J H1) : wi σ H Q := by
  refine ha F H ρ σ Q e ?_
  rw [post_bind] at p
  revert p
  cases m ρ with
  | bad => exact fun p => p
  | ex c f ρ' => exact fun p => p
  | ok x => exact fun p F1 H1 J t r => h F1 H1 x.2 x.1 J t r (PostG.imp (show PostG okc (XC G E F H σ ρ) (k x) from p) (fun _ q => q) fun _ _ _ q => q.step t)

theorem StI.re (s : StI G A F H ρ σ) : StI G { A with F0 := F } F H ρ σ := ⟨s.env, .refl _, fun _ _ h => .inl h, s.keep, s.loc, s.par⟩
theorem StI.un {F1 H1 : Hp} {ρ1 : EV} {σ1 : St} (s : StI G A F H ρ σ) (k : StI G { A with F0 := F } F1 H1 ρ1 σ1) : StI G A F1 H1 ρ1 σ1 := ⟨k.env, s.fr.trans k.fr, fun a o h => (k.new a o h).elim (s.new a o) .inr, k.keep, k.loc, k.par⟩
/-! ### for -/
def loopG (g : Tgm) (body : EV → Out (Fl × EV)) : List D → EV → Out (Fl × EV)
  | [], ρ => .ok (.next, ρ)
  | d :: ds, ρ => match g d ρ with
    | none => .bad
    | some ρ1 => (body ρ1).bind fun x => match x.1 with
      | .next => loopG g body ds x.2
      | .cont => loopG g body ds x.2
      | .brk => .ok (.next, x.2)
      | .ret r => .ok (.ret r, x.2)
def sFor (it : EV → Out (List D × EV)) (g : Tgm) (body : EV → Out (Fl × EV)) : EV → Out (Fl × EV) := fun ρ => (it ρ).bind fun x => loopG g body x.1 x.2
variable {t u : TS} {m n : EV → Out (Fl × EV)} {st : Stmt} {rest : List Stmt}
theorem ms_for {wi : TI} {mi : EV → Out (List D × EV)} {g : TG} {mg : Tgm} (hi : MdI G E wi mi) (hg : MdG G np vs g mg) (hb : Ms G E np t m) : Ms G E np (tFor wi g t) (sFor mi mg m) := fun A F H ρ σ Dn hn s p => by
  refine hi.thenS s p fun F1 H1 ρ1 ds J s1 it p1 => ?_
  refine ⟨fun i k σ H => ∃ F ρ, StI G A F H ρ σ ∧ Same F1 F ∧ PostG (OkS G A Dn) (XS G E A) (loopG mg m (ds.drop i) ρ) ∧ k = ds.length - i, ⟨_, F1, ρ1, s1, .refl _, by simpa using p1, rfl⟩, ?_⟩
  rintro i k σ H ⟨F2, ρ2, s2, sm, p2, rfl⟩
  obtain ⟨i1, i2⟩ := it F2 H sm s2.env.same
  by_cases hl : i < ds.length
  · right
    obtain ⟨d, hd⟩ : ∃ d, ds[i]? = some d := ⟨_, List.getElem?_eq_getElem hl⟩
    obtain ⟨go, yl⟩ := i1 i d hd
    refine ⟨go, fun σ' H' => ∃ F ρ, StI G A F H' ρ σ' ∧ Same F1 F ∧ PostG (OkS G A Dn) (XS G E A) (loopG mg m (ds.drop (i + 1)) ρ), ?_, ?_⟩
    · rintro σ' H' ⟨F3, ρ3, s3, sm3, p3⟩
      exact ⟨ds.length - (i + 1), by omega, F3, ρ3, s3, sm3, p3, rfl⟩
    · intro x H3 hy
      obtain ⟨F3, gr, rx⟩ := yl x H3 hy
      have s3 := s2.grow gr
      have dr : ds.drop i = d :: ds.drop (i + 1) := by
        rw [List.drop_eq_getElem_cons hl]
        congr
        rw [List.getElem?_eq_getElem hl] at hd
        exact Option.some.inj hd
      rw [dr] at p2
      simp only [loopG] at p2
      cases q : mg d ρ2 with
      | none => rw [q] at p2; exact p2.elim
      | some ρ4 =>
        rw [q] at p2
        refine hg F3 H3 ρ2 σ ρ2 σ d x _ s3.env.same .refl rx ⟨ρ4, q, fun σ4 st4 => ?_⟩
        have s4 := st4.sti hn s3
        refine hb { A with F0 := F3 } F3 H3 ρ4 σ4 _ hn s4.re ?_
        have p2 := (post_bind _ _).mp p2
        refine PostG.imp p2 (fun y z => ?_) fun _ _ _ z F' H' σ' cls dd s' x => z F' H' σ' cls dd (s4.un s') x
        obtain ⟨f, ρ5⟩ := y
        cases f with
        | next => exact fun F' H' σ' s' => ⟨F', ρ5, s4.un s', (sm.trans gr.fr).trans s'.fr, z⟩
        | cont => exact fun F' H' σ' s' => ⟨F', ρ5, s4.un s', (sm.trans gr.fr).trans s'.fr, z⟩
        | brk => exact fun F' H' σ' s' => z F' H' σ' (s4.un s')
        | ret r => exact fun F' H' σ' v s' rr => z F' H' σ' v (s4.un s') (by cases r <;> exact rr)
  · left
    refine ⟨i2 i (by omega), ?_⟩
    rw [List.drop_eq_nil_of_le (by omega)] at p2
    exact p2 F2 H σ s2
theorem ss_for {tg iter : Expr} {body : List Stmt} {wi : TI} {mi : EV → Out (List D × EV)} {g : TG} {mg : Tgm} (hp : PassesOwn (model X.prog X.w) X.A X.env X.xe) (hc : X.calm = true) (hi : SI X K cl E tg iter wi mi) (hg : SG X K cl np vs tg g mg) (hb : SB X K cl E np body t m)
    (hs : ∀ x, foldedSetIterable iter X.env x = pure x := by intro _; rfl) : SS X K cl E np (.For tg iter body [] pos) (tFor wi g t) (sFor mi mg m) := ⟨ps_for hp hc hi.1 hg.1 hb.1 hs, ms_for hi.2 hg.2 hb.2⟩
/-! ### while -/
def loopW (c : EV → Out (Bool × EV)) (body : EV → Out (Fl × EV)) : Nat → EV → Out (Fl × EV)
  | 0, _ => .bad
  | k + 1, ρ => (c ρ).bind fun b => if b.1 = true then (body b.2).bind fun x => match x.1 with
      | .next => loopW c body k x.2
      | .cont => loopW c body k x.2
      | .brk => .ok (.next, x.2)
      | .ret r => .ok (.ret r, x.2)
    else .ok (.next, b.2)
theorem ms_while {tt : TT} {nc : EV → Out (Bool × EV)} (fuel : Nat) (hc : MdT G E tt nc) (hb : Ms G E np t m) : Ms G E np (tWhile tt t) (loopW nc m fuel) := fun A F H ρ σ Dn hn s p => by
  refine ⟨fun k σ H => ∃ F ρ, StI G A F H ρ σ ∧ PostG (OkS G A Dn) (XS G E A) (loopW nc m k ρ), ⟨fuel, F, ρ, s, p⟩, ?_⟩
  rintro k σ H ⟨F2, ρ2, s2, p2⟩
  cases k with
  | zero => exact p2.elim
  | succ k =>
    simp only [loopW] at p2
    refine hc.thenS s2 p2 fun F3 H3 ρ3 b s3 p3 => ?_
    cases b with
    | false => exact iteF (p3 F3 H3 σ s3)
    | true =>
      refine iteT ⟨fun σ' H' => ∃ F ρ, StI G A F H' ρ σ' ∧ PostG (OkS G A Dn) (XS G E A) (loopW nc m k ρ), fun σ' H' q => ⟨k, Nat.lt_succ_self _, q⟩, ?_⟩
      refine hb A F3 H3 ρ3 σ _ hn s3 ?_
      refine PostG.imp ((post_bind _ _).mp p3) (fun y z => ?_) fun _ _ _ z => z
      obtain ⟨f, ρ5⟩ := y
      cases f with
      | next => exact fun F' H' σ' s' => ⟨F', ρ5, s', z⟩
      | cont => exact fun F' H' σ' s' => ⟨F', ρ5, s', z⟩
      | brk => exact z
      | ret r => exact z
theorem ss_while {c : Expr} {body : List Stmt} {tt : TT} {nc : EV → Out (Bool × EV)} (fuel : Nat) (hp : PassesOwn (model X.prog X.w) X.A X.env X.xe) (hc : SQ X K cl E c tt nc) (hb : SB X K cl E np body t m) : SS X K cl E np (.While c body [] pos) (tWhile tt t) (loopW nc m fuel) := ⟨ps_while hp hc.1 hb.1, ms_while fuel hc.2 hb.2⟩

/-! ### (a, b) = e; a, b = x, y -/
def sTup (mg : Tgm) (m : EV → Out (Rv × EV)) : EV → Out (Fl × EV) := fun ρ => (fzO (m ρ)).bind fun x => match x.1 with
  | .val d => match mg d x.2 with
    | some ρ' => .ok (.next, ρ')
    | none => .bad
  | _ => .bad
theorem ss_unpack {tg : Expr} {g : TG} {mg : Tgm} (h : SE X K cl E e ta ma) (hg : SG X K cl np vs tg g mg) (hs : swapsWithSole [tg] e pos.line X.env = pure false := by rfl) (hw : swappedStores [tg] e X.env = pure none := by rfl)
    (h1 : (assignEach [tg] X.env).map (·.2) = [assign tg X.env] := by rfl) : SS X K cl E np (.Assign [tg] e pos) (tAsg ta g) (sTup mg ma) := ⟨ps_asg h.1 hg.1 hs hw h1, fun A F H ρ σ Dn hn s p => by
  refine h.2.fz.thenS s p fun F1 H1 ρ1 r v s1 t1 rr p1 => ?_
  cases r with
  | own d => exact p1.elim
  | ref i => exact p1.elim
  | val d =>
    dsimp only at p1
    cases q : mg d ρ1 with
    | none => rw [q] at p1; exact p1.elim
    | some ρ' => rw [q] at p1; exact hg.2 F1 H1 ρ1 σ ρ1 σ d v _ s1.env.same .refl rr ⟨ρ', q, fun σ' st => p1 F1 H1 σ' (st.sti hn s1)⟩⟩
/-- frozen, or left as it is -/
def fzB (o : Bool) (x : Out (Rv × EV)) : Out (Rv × EV) := if o = true then x else fzO x
theorem Md.fzB (o : Bool) (h : Md G E ta ma) : Md G E ta (fun ρ => Fr.fzB o (ma ρ)) := by
  cases o with
  | true => exact h
  | false => exact h.fz
def setR (np i : Nat) (r : Rv) (ρ : EV) : Option EV := if okSet np i ρ = true then match r with
    | .val d => some (ρ.set i (some (.val d)))
    | .own d => some (ρ.set i (some (.own d)))
    | .ref _ => none
  else none
def outO (o : Option EV) : Out (Fl × EV) := match o with
  | some ρ => .ok (.next, ρ)
  | none => .bad
def sPar2 (np i : Nat) (oi : Bool) (j : Nat) (oj : Bool) (a b : EV → Out (Rv × EV)) : EV → Out (Fl × EV) := fun ρ => (fzB oi (a ρ)).bind fun x => (fzB oj (b x.2)).bind fun y =>
  outO ((setR np i x.1 y.2).bind fun ρ1 => setR np j y.1 ρ1)
def sPar3 (np i : Nat) (oi : Bool) (j : Nat) (oj : Bool) (k : Nat) (ok : Bool) (a b c : EV → Out (Rv × EV)) : EV → Out (Fl × EV) := fun ρ => (fzB oi (a ρ)).bind fun x => (fzB oj (b x.2)).bind fun y => (fzB ok (c y.2)).bind fun z =>
  outO ((setR np i x.1 z.2).bind fun ρ1 => (setR np j y.1 ρ1).bind fun ρ2 => setR np k z.1 ρ2)
/-- a result that stays to be stored: N tells which addresses are others' -/
def Kp (G : Gx) (A : An) (F H : Hp) (ρ : EV) (σ : St) (N : Addr → Prop) : Rv → V → Prop
  | .val d, v => R G F d v
  | .own d, v => ∃ a, v = .ref a ∧ F a = none ∧ OwnR G F H d a ∧ (∀ j, ¬ Ow ρ σ j a) ∧ A.H0 a = none ∧ ¬ N a
  | .ref _, _ => True
theorem Kp.of {N : Addr → Prop} {r : Rv} {v : V} (s : StI G A F H ρ σ) (t : Stp G F H ρ F' H' ρ' σ) (h : ResR G H F' H' ρ' σ r v) (hN : ∀ a, N a → ∃ o, H a = some o) : Kp G A F' H' ρ' σ N r v := by
  cases r with
  | val d => exact h
  | ref i => trivial
  | own d =>
    obtain ⟨a, h1, h2, h3, h4⟩ := h
    refine ⟨a, h1, h2, h4, fun j w => ?_, s.free h3, fun w => ?_⟩
    · obtain ⟨y, hy⟩ := s.env.there ((t.ow j).mp w)
      rw [h3] at hy; cases hy
    · obtain ⟨o, q⟩ := hN a w; rw [h3] at q; cases q
theorem Kp.step {N : Addr → Prop} {r : Rv} {v : V} (t : Stp G F H ρ F' H' ρ' σ) (h : Kp G A F H ρ σ N r v) : Kp G A F' H' ρ' σ N r v := by
  cases r with
  | val d => exact R.mono t.fr h
  | ref i => trivial
  | own d =>
    obtain ⟨a, h1, h2, h4, h5, h6, h7⟩ := h
    obtain ⟨o, ho⟩ := h4.there
    refine ⟨a, h1, ?_, (h4.mono t.fr).at ((t.keep a o ho h5).trans ho.symm), fun j w => h5 j ((t.ow j).mp w), h6, h7⟩
    cases y : F' a with
    | none => rfl
    | some x =>
      rcases t.new a x y with u | u
      · rw [h2] at u; cases u
      · rw [ho] at u; cases u
def adr : Rv → V → Addr → Prop
  | .own _, v, a => v = .ref a
  | _, _, _ => False
theorem Kp.adr {N : Addr → Prop} {r : Rv} {v : V} (h : Kp G A F H ρ σ N r v) (a : Addr) (w : adr r v a) : ∃ o, H a = some o := by
  cases r with
  | val d => exact w.elim
  | ref i => exact w.elim
  | own d =>
    obtain ⟨b, h1, h2, h4, h5, h6⟩ := h
    have : b = a := by have q : v = .ref a := w; rw [h1] at q; injection q
    subst this
    exact h4.there
theorem setR_ok {i : Nat} {r : Rv} {v : V} {N : Addr → Prop} (hn : A.as.length = np) (s : StI G A F H ρ σ) (h : Kp G A F H ρ σ N r v) (q : setR np i r ρ = some ρ') : StI G A F H ρ' (σ.set i (some v)) ∧ ∀ (N' : Addr → Prop) r' v', (∀ a, Fr.adr r v a → N' a) → Kp G A F H ρ σ N' r' v' → Kp G A F H ρ' (σ.set i (some v)) N' r' v' := by
  unfold setR at q
  by_cases ok : okSet np i ρ = true
  · rw [if_pos ok] at q
    cases r with
    | val d =>
      injection q with q; subst q
      refine ⟨s.setVal hn ok h, fun N' r' v' _ k => ?_⟩
      cases r' with
      | val d => exact k
      | ref i => trivial
      | own d' =>
        obtain ⟨a, h1, h2, h4, h5, h6, h7⟩ := k
        refine ⟨a, h1, h2, h4, ?_, h6, h7⟩
        rintro j ⟨⟨x, q1⟩, q2⟩
        rw [get_set] at q1 q2
        by_cases z : i = j
        · rw [if_pos z] at q1
          by_cases y : i < ρ.length
          · rw [if_pos y] at q1; injection q1 with q1; cases q1
          · rw [if_neg y] at q1; cases q1
        · rw [if_neg z] at q1 q2; exact h5 j ⟨⟨x, q1⟩, q2⟩
    | ref i => cases q
    | own d =>
      injection q with q; subst q
      obtain ⟨a, h1, h2, h4, h5, h6, h7⟩ := h
      subst h1
      refine ⟨s.setOwn hn ok h2 h4 h5 h6, fun N' r' v' hh k => ?_⟩
      cases r' with
      | val d => exact k
      | ref i => trivial
      | own d' =>
        obtain ⟨b, k1, k2, k4, k5, k6, k7⟩ := k
        refine ⟨b, k1, k2, k4, ?_, k6, k7⟩
        rintro j ⟨⟨x, q1⟩, q2⟩
        rw [get_set] at q1 q2
        by_cases z : i = j
        · rw [if_pos z] at q2
          by_cases y : i < σ.length
          · rw [if_pos y] at q2
            injection q2 with q2; injection q2 with q2; injection q2 with q2
            subst q2
            exact k7 (hh _ rfl)
          · rw [if_neg y] at q2; cases q2
        · rw [if_neg z] at q1 q2; exact k5 j ⟨⟨x, q1⟩, q2⟩
  · rw [if_neg ok] at q; cases q
theorem ms_par2 {i j : Nat} {oi oj : Bool} (ha : Md G E ta ma) (hb : Md G E tb mb) : Ms G E np (tPar i j (tCons ta (tCons tb tNil))) (sPar2 np i oi j oj ma mb) := fun A F H ρ σ Dn hn s p => by
  refine (ha.fzB oi).thenS s p fun F1 H1 ρ1 r v s1 t1 rr p1 => ?_
  refine (hb.fzB oj).thenS s1 p1 fun F2 H2 ρ2 r2 v2 s2 t2 rr2 p2 => ?_
  have k1 := (Kp.of (N := fun _ => False) s t1 rr fun _ w => w.elim)
  have k2 := Kp.of (N := adr r v) s1 t2 rr2 fun a w => k1.adr a w
  have k1 := k1.step t2
  refine ⟨v, v2, rfl, ?_⟩
  dsimp only at p2
  cases q1 : setR np i r ρ2 with
  | none => rw [q1] at p2; exact p2.elim
  | some ρ3 =>
    obtain ⟨s3, c3⟩ := setR_ok hn s2 k1 q1
    cases q2 : setR np j r2 ρ3 with
    | none => rw [q1] at p2; simp only [Option.bind, q2] at p2; exact p2.elim
    | some ρ4 =>
      rw [q1] at p2; simp only [Option.bind, q2] at p2
      exact p2 F2 H2 _ (setR_ok hn s3 (c3 _ _ _ (fun _ w => w) k2) q2).1
theorem ss_par2 (i : Nat) (oi : Bool) (j : Nat) (oj : Bool) {x y : Str} {px py pt : Pos} {kt k2 pt2} (hc : X.calm = true) (hN : X.N.Nodup) (ha : SE X K cl E a ta ma) (hb : SE X K cl E b tb mb) (hi : X.N[i]? = some x := by rfl) (hj : X.N[j]? = some y := by rfl) (hij : i ≠ j := by decide)
    (hx : X.env.scope.names.lookup x = some .local := by rfl) (hy : X.env.scope.names.lookup y = some .local := by rfl) (hs1 : starEach [a, b] X.env = (false, eval a X.env) :: starEach [b] X.env := by rfl) (hs2 : starEach [b] X.env = (false, eval b X.env) :: starEach [] X.env := by rfl)
    (hw : swappedStores [.Tuple [.Name x px, .Name y py] kt pt] (.Tuple [a, b] k2 pt2) X.env = pure (some [x, y]) := by rfl)
    (hs : swapsWithSole [.Tuple [.Name x px, .Name y py] kt pt] (.Tuple [a, b] k2 pt2) pos.line X.env = pure false := by rfl) :
    SS X K cl E np (.Assign [.Tuple [.Name x px, .Name y py] kt pt] (.Tuple [a, b] k2 pt2) pos) (tPar i j (tCons ta (tCons tb tNil))) (sPar2 np i oi j oj ma mb) :=
  ⟨ps_par hc hN hi hj hij hx hy (pa_cons ha.1 (pa_cons hb.1 pa_nil hs2) hs1) hw hs, ms_par2 ha.2 hb.2⟩
end
end Fr
namespace Fr
open PySem L2

def wipeE (ρ : EV) : List Nat → EV
  | [] => ρ
  | v :: vs => (wipeE ρ vs).set v none
/-- behind a turn of a comprehension: its own names as they were -/
def back (ρ : EV) (vs : List Nat) (ρ' : EV) : EV := ρ'.mapIdx fun i x => if i ∈ vs then (ρ[i]?).getD none else x
def SPs (X : Cx) (K : PySem.W.Frag) (cl : Str → Addr) (E : XK) (ifs : List Expr) (t : TT) (m : EV → Out (Bool × EV)) : Prop := PTs X ifs t ∧ MdT ⟨K, cl⟩ E t m
def mYes : EV → Out (Bool × EV) := fun ρ => .ok (true, ρ)
section
variable {G : Gx} {E : XK} {X : Cx} {K : PySem.W.Frag} {cl : Str → Addr} {A : An} {np : Nat} {vs : List Nat} {ta tb tc te : TE} {ma mb mc me : EV → Out (Rv × EV)} {a b c e : Expr} {es : List Expr} {pos : Pos} {F H F' H' : Hp} {ρ ρ' : EV} {σ σ' : St}
theorem sps_nil : SPs X K cl E [] tYes mYes := ⟨pts_nil, fun F H ρ σ Q e p => p F H (.refl e)⟩
theorem sps_one {t : TT} {m : EV → Out (Bool × EV)} (h : SQ X K cl E c t m) : SPs X K cl E [c] t m := ⟨pts_one h.1, h.2⟩
theorem wipeE_out {i : Nat} : ∀ {vs : List Nat}, i ∉ vs → (wipeE ρ vs)[i]? = ρ[i]?
  | [], _ => rfl
  | v :: vs, h => by
    simp only [wipeE]
    rw [get_set, if_neg (show ¬ v = i from fun q => h (by rw [q]; exact List.mem_cons_self)), wipeE_out fun q => h (List.mem_cons_of_mem _ q)]
theorem wipeE_in {i : Nat} {x : Sl} : ∀ {vs : List Nat}, i ∈ vs → (wipeE ρ vs)[i]? ≠ some (some x)
  | v :: vs, h => by
    simp only [wipeE]
    rw [get_set]
    by_cases z : v = i
    · rw [if_pos z]; split <;> simp
    · rw [if_neg z]
      rcases List.mem_cons.mp h with q | q
      · exact (z q.symm).elim
      · exact wipeE_in q
theorem wipeE_len : ∀ {vs : List Nat}, (wipeE ρ vs).length = ρ.length
  | [] => rfl
  | v :: vs => by simp only [wipeE, List.length_set]; exact wipeE_len
theorem wipe_len : ∀ {vs : List Nat}, (wipe σ vs).length = σ.length
  | [] => rfl
  | v :: vs => by simp only [wipe, List.length_set]; exact wipe_len
theorem EnvR.wipe (e : EnvR G F H ρ σ) (vs : List Nat) : EnvR G F H (wipeE ρ vs) (wipe σ vs) := by
  have key : ∀ (i : Nat) (x : Sl), (wipeE ρ vs)[i]? = some (some x) → i ∉ vs ∧ ρ[i]? = some (some x) ∧ (L2.wipe σ vs)[i]? = σ[i]? := by
    intro i x q
    by_cases z : i ∈ vs
    · exact (wipeE_in z q).elim
    · exact ⟨z, by rw [← wipeE_out z]; exact q, wipe_out z⟩
  refine ⟨e.same, by rw [wipeE_len, wipe_len]; exact e.len, ?_, ?_, ?_⟩
  · intro i d q
    obtain ⟨_, h1, h2⟩ := key i _ q
    rw [h2]; exact e.val i d h1
  · intro i d q
    obtain ⟨_, h1, h2⟩ := key i _ q
    rw [h2]; exact e.own i d h1
  · rintro i j b ⟨⟨x, q1⟩, q2⟩ ⟨⟨y, q3⟩, q4⟩
    obtain ⟨_, h1, h2⟩ := key i _ q1
    obtain ⟨_, h3, h4⟩ := key j _ q3
    rw [h2] at q2; rw [h4] at q4
    exact e.ne i j b ⟨⟨x, h1⟩, q2⟩ ⟨⟨y, h3⟩, q4⟩
theorem Sets.out (h : Sets G F np vs ρ σ ρ' σ') {i : Nat} (hi : i ∉ vs) : ρ'[i]? = ρ[i]? ∧ σ'[i]? = σ[i]? := by
  induction h with
  | refl => exact ⟨rfl, rfl⟩
  | @set ρ1 σ1 j d v _ ok hv r ih =>
    have z : j ≠ i := fun q => hi (q ▸ hv)
    rw [get_set, get_set, if_neg z, if_neg z]; exact ih
theorem Sets.noOwn (h : Sets G F np vs ρ σ ρ' σ') (h0 : ∀ i ∈ vs, ∀ d : D, ρ[i]? ≠ some (some (Sl.own d))) : ∀ i ∈ vs, ∀ d : D, ρ'[i]? ≠ some (some (Sl.own d)) := by
  induction h with
  | refl => exact h0
  | @set ρ1 σ1 j d v _ ok hv r ih =>
    intro i hi x q
    rw [get_set] at q
    by_cases z : j = i
    · rw [if_pos z] at q; split at q
      · injection q with q; cases q
      · cases q
    · rw [if_neg z] at q; exact ih i hi x q
/-- a turn of a block, seen from outside -/
theorem blk_back {F3 H3 F5 H5 : Hp} {ρ4 ρ5 : EV} {σ4 : St} (e : EnvR G F H ρ σ) (gr : Grow F H F3 H3) (st : Sets G F3 0 vs (wipeE ρ vs) (wipe σ vs) ρ4 σ4) (t : Stp G F3 H3 ρ4 F5 H5 ρ5 σ4) : Stp G F H ρ F5 H5 (back ρ vs ρ5) σ := by
  have out : ∀ i : Nat, i ∉ vs → ρ4[i]? = ρ[i]? ∧ σ4[i]? = σ[i]? := fun i hi => by
    obtain ⟨h1, h2⟩ := st.out hi
    exact ⟨h1.trans (wipeE_out hi), h2.trans (wipe_out hi)⟩
  have noO : ∀ i ∈ vs, ∀ d : D, ρ4[i]? ≠ some (some (Sl.own d)) := st.noOwn fun i hi d => wipeE_in hi
  have len5 : ρ5.length = ρ.length := by
    have h1 := t.env.len
    have h2 := (st.env ((e.grow gr).wipe vs)).len
    have h3 : σ4.length = σ.length := by
      have : ∀ {ρ' : EV} {σ' : St}, Sets G F3 0 vs (wipeE ρ vs) (L2.wipe σ vs) ρ' σ' → σ'.length = σ.length := by
        intro ρ' σ' h
        induction h with
        | refl => exact wipe_len
        | set _ _ _ _ ih => rw [List.length_set]; exact ih
      exact this st
    rw [h1, h3, ← e.len]
  have get : ∀ i : Nat, (back ρ vs ρ5)[i]? = if i ∈ vs then ρ[i]? else ρ5[i]? := by
    intro i
    simp only [back, List.getElem?_mapIdx]
    by_cases hi : i ∈ vs
    · rw [if_pos hi]
      by_cases hl : i < ρ.length
      · rw [List.getElem?_eq_getElem (l := ρ5) (by omega), List.getElem?_eq_getElem hl]; simp [hi]
      · rw [List.getElem?_eq_none (l := ρ5) (by omega), List.getElem?_eq_none (l := ρ) (by omega)]; rfl
    · rw [if_neg hi]; simp [hi]
  have ow4 : ∀ (i : Nat) (a : Addr), Ow ρ4 σ4 i a → i ∉ vs ∧ Ow ρ σ i a := by
    rintro i a ⟨⟨d, q1⟩, q2⟩
    have hi : i ∉ vs := fun z => noO i z d q1
    obtain ⟨h1, h2⟩ := out i hi
    exact ⟨hi, ⟨d, h1 ▸ q1⟩, h2 ▸ q2⟩
  have mode : ∀ i : Nat, (∃ d d' : D, ρ[i]? = some (some (Sl.own d)) ∧ (back ρ vs ρ5)[i]? = some (some (Sl.own d'))) ∨ ((∀ d : D, ρ[i]? ≠ some (some (Sl.own d))) ∧ (back ρ vs ρ5)[i]? = ρ[i]?) := by
    intro i
    rw [get]
    by_cases hi : i ∈ vs
    · rw [if_pos hi]
      cases z : ρ[i]? with
      | none => exact .inr ⟨by simp, rfl⟩
      | some x =>
        cases x with
        | none => exact .inr ⟨by simp, rfl⟩
        | some x =>
          cases x with
          | val d => exact .inr ⟨by simp, rfl⟩
          | own d => exact .inl ⟨d, d, rfl, rfl⟩
    · rw [if_neg hi]
      have h1 := (out i hi).1
      rcases t.mode i with ⟨d, d', k1, k2⟩ | ⟨k1, k2⟩
      · exact .inl ⟨d, d', h1 ▸ k1, k2⟩
      · exact .inr ⟨fun d q => k1 d (h1.trans q), k2.trans h1⟩
  have keep : ∀ a o, H a = some o → (∀ i, ¬ (i ∉ vs ∧ Ow ρ σ i a)) → H5 a = some o := fun a o h w => t.keep a o (gr.keep a o h) fun i q => w i (ow4 i a q)
  have new : ∀ a o, F5 a = some o → F a = some o ∨ H a = none := fun a o h => (t.new a o h).elim (gr.new a o) fun q => .inr (gr.keep.free q)
  refine ⟨gr.fr.trans t.fr, ⟨t.env.same, by simp [back, len5, e.len], ?_, ?_, ?_⟩, new, fun a o h w => keep a o h fun i q => w i q.2, mode⟩
  · intro i d q
    rcases mode i with ⟨x, x', h1, h2⟩ | ⟨h1, h2⟩
    · rw [h2] at q; injection q with q; cases q
    · rw [h2] at q
      obtain ⟨v, k1, k2⟩ := e.val i d q
      exact ⟨v, k1, (k2.mono gr.fr).mono t.fr⟩
  · intro i d q
    rw [get] at q
    by_cases hi : i ∈ vs
    · rw [if_pos hi] at q
      obtain ⟨a, k1, k2, k3⟩ := e.own i d q
      obtain ⟨o, ho⟩ := k3.there
      refine ⟨a, k1, ?_, ((k3.mono gr.fr).mono t.fr).at ((keep a o ho ?_).trans ho.symm)⟩
      · cases y : F5 a with
        | none => rfl
        | some x =>
          rcases new a x y with u | u
          · rw [k2] at u; cases u
          · rw [ho] at u; cases u
      · rintro j ⟨hj, w⟩
        exact hj (e.ne j i a w ⟨⟨d, q⟩, k1⟩ ▸ hi)
    · rw [if_neg hi] at q
      obtain ⟨a, k1, k2, k3⟩ := t.env.own i d q
      exact ⟨a, (out i hi).2 ▸ k1, k2, k3⟩
  · rintro i j b ⟨⟨x, q1⟩, q2⟩ ⟨⟨y, q3⟩, q4⟩
    refine e.ne i j b ⟨?_, q2⟩ ⟨?_, q4⟩
    · rcases mode i with ⟨z, z', h1, h2⟩ | ⟨h1, h2⟩
      · exact ⟨z, h1⟩
      · exact ⟨x, h2 ▸ q1⟩
    · rcases mode j with ⟨z, z', h1, h2⟩ | ⟨h1, h2⟩
      · exact ⟨z, h1⟩
      · exact ⟨y, h2 ▸ q3⟩
theorem wipe_wipe {σ : St} : ∀ {ws vs : List Nat}, (∀ i ∈ ws, i ∈ vs) → wipe (wipe σ ws) vs = wipe σ vs
  | [], _, _ => rfl
  | w :: ws, vs, h => by
    show L2.wipe ((L2.wipe σ ws).set w none) vs = _
    rw [wipe_set (h w List.mem_cons_self)]
    exact wipe_wipe fun i q => h i (List.mem_cons_of_mem _ q)
/-! ### list comprehensions -/
def lcGo (mg : Tgm) (vs : List Nat) (mt : EV → Out (Bool × EV)) (me : EV → Out (Rv × EV)) : List D → List D → EV → Out (Rv × EV)
  | [], acc, ρ => .ok (.own (.list acc), ρ)
  | d :: ds, acc, ρ => match mg d (wipeE ρ vs) with
    | none => .bad
    | some ρ4 => match mt ρ4 with
      | .ok (true, ρ5) => match fzO (me ρ5) with
        | .ok (.val y, ρ6) => if acc.length < sizeLine then lcGo mg vs mt me ds (acc ++ [y]) (back ρ vs ρ6) else .bad
        | _ => .bad
      | .ok (false, ρ5) => lcGo mg vs mt me ds acc (back ρ vs ρ5)
      | _ => .bad
def mLc (mi : EV → Out (List D × EV)) (mg : Tgm) (vs : List Nat) (mt : EV → Out (Bool × EV)) (me : EV → Out (Rv × EV)) : EV → Out (Rv × EV) := fun ρ => (mi ρ).bind fun x => lcGo mg vs mt me x.1 [] x.2
theorem Stp.upd' {a : Addr} {o o' : HO} {F1 H1 : Hp} {ρ1 : EV} (t : Stp G F1 H1 ρ1 F H ρ σ) (n : H1 a = Option.none) (f : F a = Option.none) (hh : H a = some o') (w : ∀ i, ¬ Ow ρ σ i a) : Stp G F1 H1 ρ1 F (upd H a o) ρ σ where
  fr := t.fr
  env := by
    refine ⟨fun b x q => ?_, t.env.len, t.env.val, fun i d q => ?_, t.env.ne⟩
    · rw [upd_ne (ne_of_none q f)]; exact t.env.same b x q
    · obtain ⟨b, k1, k2, k3⟩ := t.env.own i d q
      have z : b ≠ a := fun z => w i ⟨⟨d, q⟩, z ▸ k1⟩
      exact ⟨b, k1, k2, k3.at (upd_ne z)⟩
  new := t.new
  keep := fun b x q z => by rw [upd_ne (ne_of_none q n)]; exact t.keep b x q z
  mode := t.mode
theorem md_lc {wi : TI} {mi : EV → Out (List D × EV)} {g : TG} {mg : Tgm} {tt : TT} {mt : EV → Out (Bool × EV)} (hi : MdI G E wi mi) (hg : MdG G 0 vs g mg) (ht : MdT G E0 tt mt) (he : Md G E0 te me) : Md G E (tLc wi g tt te vs) (mLc mi mg vs mt me) := fun F H ρ σ Q en p => by
  refine hi.then en p fun F1 H1 ρ1 ds J s1 it p1 => ?_
  intro Dn n1
  have gr1 : Grow F1 H1 F1 (upd H1 Dn (.lst [])) := .beside s1.env.same n1
  have nw : ∀ i, ¬ Ow ρ1 σ i Dn := fun i w => by obtain ⟨y, hy⟩ := s1.env.there w; rw [n1] at hy; cases hy
  refine ⟨fun i k H' => ∃ F' ρ' acc av, Stp G F1 H1 ρ1 F' H' ρ' σ ∧ F' Dn = none ∧ H' Dn = some (.lst av) ∧ Rs G F' acc av ∧ PostG (Okc G F H σ ρ Q) (XC G E F1 H1 σ ρ1) (lcGo mg vs mt me (ds.drop i) acc ρ') ∧ k = ds.length - i,
    ⟨_, F1, ρ1, [], [], gr1.stp s1.env, s1.env.same.free n1, upd_same, .nil, by simpa using p1, rfl⟩, ?_⟩
  rintro i k H2 ⟨F2, ρ2, acc, av, t2, f2, h2, r2, p2, rfl⟩
  have w2 : ∀ i, ¬ Ow ρ2 σ i Dn := fun i w => nw i ((t2.ow i).mp w)
  obtain ⟨i1, i2⟩ := it F2 H2 t2.fr t2.env.same
  by_cases hl : i < ds.length
  · right
    obtain ⟨d, hd⟩ : ∃ d, ds[i]? = some d := ⟨_, List.getElem?_eq_getElem hl⟩
    obtain ⟨go, yl⟩ := i1 i d hd
    refine ⟨go, fun H' => ∃ F' ρ' acc av, Stp G F1 H1 ρ1 F' H' ρ' σ ∧ F' Dn = none ∧ H' Dn = some (.lst av) ∧ Rs G F' acc av ∧ PostG (Okc G F H σ ρ Q) (XC G E F1 H1 σ ρ1) (lcGo mg vs mt me (ds.drop (i + 1)) acc ρ'), ?_, ?_⟩
    · rintro H' ⟨F3, ρ3, acc3, av3, a1, a2, a3, a4, a5⟩
      exact ⟨ds.length - (i + 1), by omega, F3, ρ3, acc3, av3, a1, a2, a3, a4, a5, rfl⟩
    · intro x H3 hy
      obtain ⟨F3, gr, rx⟩ := yl x H3 hy
      have dr : ds.drop i = d :: ds.drop (i + 1) := by
        rw [List.drop_eq_getElem_cons hl]
        congr
        rw [List.getElem?_eq_getElem hl] at hd
        exact Option.some.inj hd
      rw [dr] at p2
      simp only [lcGo] at p2
      cases q : mg d (wipeE ρ2 vs) with
      | none => rw [q] at p2; exact p2.elim
      | some ρ4 =>
        rw [q] at p2
        dsimp only at p2
        refine hg F3 H3 (wipeE ρ2 vs) (wipe σ vs) (wipeE ρ2 vs) (wipe σ vs) d x _ gr.sub .refl rx ⟨ρ4, q, fun σ4 st4 => ?_⟩
        have e3 := (t2.env.grow gr).wipe vs
        have e4 := st4.env e3
        refine ⟨by rw [st4.wipe]; exact wipe_wipe fun _ h => h, ?_⟩
        have w4 : ∀ i, ¬ Ow ρ4 σ4 i Dn := by
          rintro j ⟨⟨y, q1⟩, q2⟩
          by_cases hj : j ∈ vs
          · exact st4.noOwn (fun i hi d => wipeE_in hi) j hj y q1
          · obtain ⟨k1, k2⟩ := st4.out hj
            exact w2 j ⟨⟨y, by rw [← wipeE_out hj, ← k1]; exact q1⟩, by rw [← wipe_out hj, ← k2]; exact q2⟩
        have h3 : H3 Dn = some (.lst av) := gr.keep _ _ h2
        have f3 : F3 Dn = none := by
          cases y : F3 Dn with
          | none => rfl
          | some z =>
            rcases gr.new _ z y with u | u
            · rw [f2] at u; cases u
            · rw [h2] at u; cases u
        refine ht F3 H3 ρ4 σ4 _ e4 ?_
        revert p2
        cases mt ρ4 with
        | bad => exact False.elim
        | ex c f ρ' => exact False.elim
        | ok y =>
          obtain ⟨b, ρ5⟩ := y
          cases b with
          | false =>
            intro p2 F5 H5 t5
            refine iteF ⟨F5, _, acc, av, t2.trans (blk_back t2.env gr st4 t5), ?_, t5.keep _ _ h3 w4, (r2.mono gr.fr).mono t5.fr, p2⟩
            cases y : F5 Dn with
            | none => rfl
            | some z =>
              rcases t5.new _ z y with u | u
              · rw [f3] at u; cases u
              · rw [h3] at u; cases u
          | true =>
            intro p2 F5 H5 t5
            dsimp only at p2
            refine iteT (he.fz F5 H5 ρ5 σ4 _ t5.env ?_)
            revert p2
            dsimp only
            cases fzO (me ρ5) with
            | bad => exact False.elim
            | ex c f ρ' => exact False.elim
            | ok y =>
              obtain ⟨r, ρ6⟩ := y
              cases r with
              | own d => exact False.elim
              | ref i => exact False.elim
              | val y =>
                dsimp only
                by_cases hz : acc.length < sizeLine
                · rw [if_pos hz]
                  intro p2 F6 H6 v t6 rv
                  have t56 := t5.trans t6
                  have h6 : H6 Dn = some (.lst av) := t56.keep _ _ h3 w4
                  have f6 : F6 Dn = none := by
                    cases y : F6 Dn with
                    | none => rfl
                    | some z =>
                      rcases t56.new _ z y with u | u
                      · rw [f3] at u; cases u
                      · rw [h3] at u; cases u
                  have tb := t2.trans (blk_back t2.env gr st4 t56)
                  refine ⟨av, h6, by rw [r2.length]; exact hz, F6, _, acc ++ [y], av ++ [v], tb.upd' n1 f6 h6 (fun i w => nw i ((tb.ow i).mp w)), f6, upd_same, (((r2.mono gr.fr).mono t56.fr).append (.cons rv .nil)), p2⟩
                · rw [if_neg hz]; exact False.elim
  · left
    refine ⟨i2 i (by omega), ?_⟩
    rw [List.drop_eq_nil_of_le (by omega)] at p2
    simp only [lcGo] at p2
    exact p2 F2 H2 _ (s1.trans t2) ⟨Dn, rfl, f2, s1.none en n1, av, h2, r2⟩
theorem se_lc {elt tg iter : Expr} {ifs : List Expr} {scope : Scope} {wi : TI} {mi : EV → Out (List D × EV)} {g : TG} {mg : Tgm} {tt : TT} {mt : EV → Out (Bool × EV)} (own : List (Str × Nat)) (hc : X.calm = true) (hN : X.N.Nodup) (hi : SI X K cl E tg iter wi mi) (ok : BlkOk X.N X.env.scope scope own)
    (hg : ∀ (s : Shared) (H : Hp) (C : Addr) (c : List (Str × Addr)) (fp : List Addr), SG (X.blk s H scope (compEnvC scope c C X.env) fp) K cl 0 (own.map (·.2)) tg g mg) (ht : ∀ (s : Shared) (H : Hp) (C : Addr) (c : List (Str × Addr)) (fp : List Addr), SPs (X.blk s H scope (compEnvC scope c C X.env) fp) K cl E0 ifs tt mt)
    (he : ∀ (s : Shared) (H : Hp) (C : Addr) (c : List (Str × Addr)) (fp : List Addr), SE (X.blk s H scope (compEnvC scope c C X.env) fp) K cl E0 elt te me) (hs : ∀ x, foldedSetIterable iter X.env x = pure x := by intro _; rfl) :
    SE X K cl E (.ListComp elt [⟨tg, iter, ifs, 0⟩] scope pos) (tLc wi g tt te (own.map (·.2))) (mLc mi mg (own.map (·.2)) mt me) :=
  ⟨pe_lc hc hN hi.1 ok (fun s H C c fp => (hg s H C c fp).1) (fun s H C c fp => (ht s H C c fp).1) (fun s H C c fp => (he s H C c fp).1) hs, md_lc hi.2 (hg X.s_0 X.H_0 0 [] []).2 (ht X.s_0 X.H_0 0 [] []).2 (he X.s_0 X.H_0 0 [] []).2⟩
/-- name = [..], frozen or owned -/
theorem ss_setLcV {elt tg iter : Expr} {ifs : List Expr} {scope : Scope} {wi : TI} {mi : EV → Out (List D × EV)} {g : TG} {mg : Tgm} {tt : TT} {mt : EV → Out (Bool × EV)} (i : Nat) {y : Str} {py spos : Pos} (own : List (Str × Nat)) (hc : X.calm = true) (hN : X.N.Nodup)
    (hsw : swapsWith (.ListComp elt [⟨tg, iter, ifs, 0⟩] scope pos) (some (.Name y py)) spos.line X.env = pure true) (hi : SI X K cl E tg iter wi mi) (ok : BlkOk X.N X.env.scope scope own)
    (hg : ∀ (s : Shared) (H : Hp) (C : Addr) (c : List (Str × Addr)) (fp : List Addr), SG (X.blk s H scope (compEnvC scope c C X.env) fp) K cl 0 (own.map (·.2)) tg g mg) (ht : ∀ (s : Shared) (H : Hp) (C : Addr) (c : List (Str × Addr)) (fp : List Addr), SPs (X.blk s H scope (compEnvC scope c C X.env) fp) K cl E0 ifs tt mt)
    (he : ∀ (s : Shared) (H : Hp) (C : Addr) (c : List (Str × Addr)) (fp : List Addr), SE (X.blk s H scope (compEnvC scope c C X.env) fp) K cl E0 elt te me) (hy : X.N[i]? = some y := by rfl) (hyl : X.env.scope.names.lookup y = some .local := by rfl) (hs : ∀ x, foldedSetIterable iter X.env x = pure x := by intro _; rfl) :
    SS X K cl E np (.Assign [.Name y py] (.ListComp elt [⟨tg, iter, ifs, 0⟩] scope pos) spos) (tAsg (tLc wi g tt te (own.map (·.2))) (gName i)) (sSetV np i (mLc mi mg (own.map (·.2)) mt me)) :=
  ⟨ps_setLc hc hN hy hyl hsw hi.1 ok (fun s H C c fp => (hg s H C c fp).1) (fun s H C c fp => (ht s H C c fp).1) (fun s H C c fp => (he s H C c fp).1) hs, ms_setV (md_lc hi.2 (hg X.s_0 X.H_0 0 [] []).2 (ht X.s_0 X.H_0 0 [] []).2 (he X.s_0 X.H_0 0 [] []).2)⟩
theorem ss_setLcO {elt tg iter : Expr} {ifs : List Expr} {scope : Scope} {wi : TI} {mi : EV → Out (List D × EV)} {g : TG} {mg : Tgm} {tt : TT} {mt : EV → Out (Bool × EV)} (i : Nat) {y : Str} {py spos : Pos} (own : List (Str × Nat)) (hc : X.calm = true) (hN : X.N.Nodup)
    (hsw : swapsWith (.ListComp elt [⟨tg, iter, ifs, 0⟩] scope pos) (some (.Name y py)) spos.line X.env = pure true) (hi : SI X K cl E tg iter wi mi) (ok : BlkOk X.N X.env.scope scope own)
    (hg : ∀ (s : Shared) (H : Hp) (C : Addr) (c : List (Str × Addr)) (fp : List Addr), SG (X.blk s H scope (compEnvC scope c C X.env) fp) K cl 0 (own.map (·.2)) tg g mg) (ht : ∀ (s : Shared) (H : Hp) (C : Addr) (c : List (Str × Addr)) (fp : List Addr), SPs (X.blk s H scope (compEnvC scope c C X.env) fp) K cl E0 ifs tt mt)
    (he : ∀ (s : Shared) (H : Hp) (C : Addr) (c : List (Str × Addr)) (fp : List Addr), SE (X.blk s H scope (compEnvC scope c C X.env) fp) K cl E0 elt te me) (hy : X.N[i]? = some y := by rfl) (hyl : X.env.scope.names.lookup y = some .local := by rfl) (hs : ∀ x, foldedSetIterable iter X.env x = pure x := by intro _; rfl) :
    SS X K cl E np (.Assign [.Name y py] (.ListComp elt [⟨tg, iter, ifs, 0⟩] scope pos) spos) (tAsg (tLc wi g tt te (own.map (·.2))) (gName i)) (sSetO np i (mLc mi mg (own.map (·.2)) mt me)) :=
  ⟨ps_setLc hc hN hy hyl hsw hi.1 ok (fun s H C c fp => (hg s H C c fp).1) (fun s H C c fp => (ht s H C c fp).1) (fun s H C c fp => (he s H C c fp).1) hs, ms_setO (md_lc hi.2 (hg X.s_0 X.H_0 0 [] []).2 (ht X.s_0 X.H_0 0 [] []).2 (he X.s_0 X.H_0 0 [] []).2)⟩

/-! ### a def by its body -/
def outE (as ρ : EV) : EV := as.mapIdx fun i x => match x with
  | some (.own _) => (ρ[i]?).getD none
  | x => x
def runF (np nl : Nat) (mb : EV → Out (Fl × EV)) : Mf := fun as => if as.length = np then match mb (as ++ List.replicate (nl - np) none) with
    | .ok (.ret r, ρ) => .ok (r, outE as ρ)
    | .ok (.next, ρ) => .ok (.val .none, outE as ρ)
    | .ok _ => .bad
    | .ex c f ρ => .ex c f (outE as ρ)
    | .bad => .bad
  else .bad
theorem StI.start {vs : List V} {as : EV} {N : List Str} {F0 H0 : Hp} (e : EnvR G F0 H0 as (vs.map some)) : StI G ⟨F0, H0, as, vs⟩ F0 H0 (as ++ List.replicate (N.length - as.length) none) (L2.start N vs) := by
  have hl : as.length = vs.length := by have := e.len; simpa using this
  have key : ∀ (i : Nat) (x : Sl), (as ++ List.replicate (N.length - as.length) none)[i]? = some (some x) → as[i]? = some (some x) ∧ (L2.start N vs)[i]? = (vs.map some)[i]? := by
    intro i x q
    by_cases h : i < as.length
    · rw [List.getElem?_append_left h] at q
      refine ⟨q, ?_⟩
      unfold L2.start
      rw [List.getElem?_append_left (by simp; omega)]
    · rw [List.getElem?_append_right (by omega), List.getElem?_replicate] at q
      split at q
      · injection q with q; cases q
      · cases q
  refine ⟨⟨e.same, by simp [L2.start, hl], ?_, ?_, ?_⟩, .refl _, fun _ _ h => .inl h, fun _ _ h _ => h, ?_, ?_⟩
  · intro i d q
    obtain ⟨h1, h2⟩ := key i _ q
    rw [h2]; exact e.val i d h1
  · intro i d q
    obtain ⟨h1, h2⟩ := key i _ q
    rw [h2]; exact e.own i d h1
  · rintro i j b ⟨⟨x, q1⟩, q2⟩ ⟨⟨y, q3⟩, q4⟩
    obtain ⟨h1, h2⟩ := key i _ q1
    obtain ⟨h3, h4⟩ := key j _ q3
    rw [h2] at q2; rw [h4] at q4
    exact e.ne i j b ⟨⟨x, h1⟩, q2⟩ ⟨⟨y, h3⟩, q4⟩
  · rintro i b ⟨⟨x, q1⟩, q2⟩
    obtain ⟨h1, h2⟩ := key i _ q1
    rw [h2] at q2
    exact .inl ⟨⟨x, h1⟩, q2⟩
  · intro i d q
    have h : i < as.length := (List.getElem?_eq_some_iff.mp q).1
    refine ⟨⟨d, by rw [List.getElem?_append_left h]; exact q⟩, ?_⟩
    unfold L2.start
    rw [List.getElem?_append_left (by simp; omega)]
theorem StI.leave {vs : List V} {as : EV} {F0 H0 : Hp} (e : EnvR G F0 H0 as (vs.map some)) (s : StI G ⟨F0, H0, as, vs⟩ F H ρ σ) : Stp G F0 H0 as F H (outE as ρ) (vs.map some) := by
  have get : ∀ i : Nat, (outE as ρ)[i]? = (as[i]?).map fun x => match x with
      | some (.own _) => (ρ[i]?).getD none
      | x => x := fun i => by simp only [outE, List.getElem?_mapIdx]
  have mode : ∀ i : Nat, (∃ d d' : D, as[i]? = some (some (Sl.own d)) ∧ (outE as ρ)[i]? = some (some (Sl.own d')) ∧ ρ[i]? = some (some (Sl.own d')) ∧ σ[i]? = (vs.map some)[i]?) ∨ ((∀ d : D, as[i]? ≠ some (some (Sl.own d))) ∧ (outE as ρ)[i]? = as[i]?) := by
    intro i
    rw [get]
    cases z : as[i]? with
    | none => exact .inr ⟨by simp, rfl⟩
    | some x =>
      cases x with
      | none => exact .inr ⟨by simp, rfl⟩
      | some x =>
        cases x with
        | val d => exact .inr ⟨by simp, rfl⟩
        | own d =>
          obtain ⟨⟨d', k1⟩, k2⟩ := s.par i d z
          exact .inl ⟨d, d', rfl, by simp [k1], k1, k2⟩
  refine ⟨s.fr, ⟨s.env.same, by simp [outE, e.len], ?_, ?_, ?_⟩, s.new, s.keep, fun i => ?_⟩
  · intro i d q
    rcases mode i with ⟨x, x', h1, h2, h3, h4⟩ | ⟨h1, h2⟩
    · rw [h2] at q; injection q with q; cases q
    · rw [h2] at q
      obtain ⟨v, k1, k2⟩ := e.val i d q
      exact ⟨v, k1, k2.mono s.fr⟩
  · intro i d q
    rcases mode i with ⟨x, x', h1, h2, h3, h4⟩ | ⟨h1, h2⟩
    · rw [h2] at q; injection q with q; injection q with q; injection q with q; subst q
      rw [← h4]; exact s.env.own i _ h3
    · rw [h2] at q; exact (h1 d q).elim
  · rintro i j b ⟨⟨x, q1⟩, q2⟩ ⟨⟨y, q3⟩, q4⟩
    rcases mode i with ⟨x, x', h1, h2, h3, h4⟩ | ⟨h1, h2⟩
    · rcases mode j with ⟨z, z', k1, k2, k3, k4⟩ | ⟨k1, k2⟩
      · exact e.ne i j b ⟨⟨x, h1⟩, q2⟩ ⟨⟨z, k1⟩, q4⟩
      · rw [k2] at q3; exact (k1 y q3).elim
    · rw [h2] at q1; exact (h1 x q1).elim
  · rcases mode i with ⟨x, x', h1, h2, h3, h4⟩ | ⟨h1, h2⟩
    · exact .inl ⟨x, x', h1, h2⟩
    · exact .inr ⟨h1, h2⟩
end
end Fr
namespace Fr
open PySem L2
open PyProof.Rows (envOfC)

/-- a def's promise where no repr is under way -/
structure FnG (P : Program) (w : World) (K : PySem.W.Frag) (mg : Str → Option Value) (bs : Heap) (k : Nat) (f : Addr) (fd : FuncData) (ps : List Str) (sp : Sp) : Prop where
  len : ∀ vs H Q E, sp vs H Q E → vs.length = ps.length
  run : ∀ (A : Around) (out : List Env) (s : Shared) (H : Hp) (args : Args) (us : List Value) (vs : List V) (Q : VK) (E : XK), Room k A → A.guards = some [] → Env0 P w K mg bs A out s H →
    BindsTo s fd args (ps.zip us) → Vals vs us → sp vs H Q E → codeAny (model P w) A (.call (.ref f) args) (CR (L2.CX P w) out P w H s Q E) s
section
variable {P : Program} {w : World} {K : PySem.W.Frag} {mg : Str → Option Value} {bs : Heap}
theorem FnG.of {k : Nat} {f : Addr} {fd : FuncData} {ps : List Str} {sp : Sp} (h : FnOk P w K mg bs (L2.CX P w) k f fd ps sp) : FnG P w K mg bs k f fd ps sp := ⟨h.len, fun A out s H args us vs Q E hr _ e0 hb hv q => h.run A out s H args us vs Q E hr e0 hb hv q⟩
theorem FnG.mono {j k : Nat} {f : Addr} {fd : FuncData} {ps : List Str} {sp : Sp} (h : FnG P w K mg bs j f fd ps sp) (hk : j ≤ k) : FnG P w K mg bs k f fd ps sp := ⟨h.len, fun A out s H args us vs Q E hr hg e0 hb hv q => h.run A out s H args us vs Q E (hr.mono hk) hg e0 hb hv q⟩
theorem FnG.imp {k : Nat} {f : Addr} {fd : FuncData} {ps : List Str} {sp sp' : Sp} (h : FnG P w K mg bs k f fd ps sp) (hi : ∀ vs H Q E, sp' vs H Q E → sp vs H Q E) : FnG P w K mg bs k f fd ps sp' := ⟨fun vs H Q E q => h.len vs H Q E (hi _ _ _ _ q), fun A out s H args us vs Q E hr hg e0 hb hv q => h.run A out s H args us vs Q E hr hg e0 hb hv (hi _ _ _ _ q)⟩
/-- by the body -/
theorem fng_of {k : Nat} {f : Addr} {name qual : Str} {params : Arguments} {body : List Stmt} {scope : Scope} {dV kV doc pm cdv ct oc : Value} {an od : Option Addr} {osl : Array (Option Value)} {N ps : List Str} {sp : Sp}
    (lk : K.lookup f = some ⟨oc, od, .func (PySem.W.fnOf name qual params body scope dV kV doc pm an cdv ct), osl⟩) (hcd : PySem.W.codeIn K cdv qual = true) (S : FnScope N ps scope) (len : ∀ vs H Q E, sp vs H Q E → vs.length = ps.length)
    (hb : ∀ (A : Around) (out : List Env) (s : Shared) (H : Hp) (vs : List V) (Q : VK) (E : XK), Room k (A.deeper (envOfC qual scope s.heap.objs.size f cdv)) → A.guards = some [] → sp vs H Q E →
      ∃ t, PSs (cxOf (L2.CX P w) P w K mg bs N qual scope f cdv A out s H E) body t ∧ t { nx := fun _ H' => Q .non H', rt := Q } (L2.start N vs) H) :
    FnG P w K mg bs (k + 1) f (PySem.W.fnOf name qual params body scope dV kV doc pm an cdv ct) ps sp := by
  refine ⟨len, fun A out s H args us vs Q E hr hgd e0 hbi hv hsp => ?_⟩
  have old : ∀ b o, bs.get? b = some o → s.heap.get? b = some o := fun b o e => (e0.bs b o e).1
  have KX : K.In s.heap := e0.mod.kin.keeps old
  have lim : s.heap.NoLimit := e0.mod.nolimit.keeps old
  have kinds : ∀ y ∈ ps.zip us, scope.names.lookup y.1 = some .local ∨ (scope.names.lookup y.1 = some .cell ∧ ((PySem.cellsFrom (s.heap.objs.size + 1) scope.names []).lookup y.1).isSome = true) := by
    rintro ⟨z, v⟩ hy
    exact (S.par z (List.of_mem_zip hy).1).imp id fun q => ⟨q, PySem.W.cellsFrom_some _ _ _ (.inl q)⟩
  refine PySem.codeAny_call_function hr.depth (KX _ _ lk) rfl S.co S.gen rfl (PySem.W.codeRec_of KX hcd) (hbi _ _ _ _ ?_)
  refine PySem.wpAny_newFunctionEnv_cells S.kind kinds fun env he s1 x => ?_
  subst he
  refine ⟨lim.keeps x.toInCall.keep, PySem.codeAny_func ?_⟩
  obtain ⟨t, ht, hq⟩ := hb A out s H vs Q E (hr.deeper _) hgd hsp
  have I := inv_start (CX := L2.CX P w) (P := P) (w := w) (K := K) (mg := mg) (base := bs) (E := E) S hr.hd e0 (len _ _ _ _ hsp) hv x
  refine wpAny_mono (ht.run [] s1 _ H _ I hq) (fun fl s' hs => ?_) fun e s' hs => hs
  cases fl with
  | ret u => obtain ⟨v, σ', H', J, rv, q⟩ := hs; exact ⟨v, H', J.os, J.bare, J.base, J.hok, rv, q⟩
  | next => obtain ⟨σ', H', J, q⟩ := hs; exact ⟨V.non, H', J.os, J.bare, J.base, J.hok, rfl, q⟩
  | brk => obtain ⟨_, _, _, q⟩ := hs; exact q.elim
  | cont => obtain ⟨_, _, _, q⟩ := hs; exact q.elim
end
section
variable {X : Cx} {k : Nat} {f C : Addr} {fd : FuncData} {ps : List Str} {sp : Sp} {dvs : List V} {ds : List Value} {E : XK} {x m : Str} {p pos apos : Pos} {e o : Expr} {es : List Expr} {ta : TE} {t : TA}
/-- the callee runs -/
theorem run_g {pins : List (Addr × Obj)} {σ : St} {H : Hp} {s : Shared} {Q : VK} {us : List Value} {vs : List V} (F : FnG X.prog X.w X.K X.mg X.base k f fd ps sp) (hr : Room k X.A) (hgd : X.A.guards = some []) (hb : Binds X.K fd ps ds) (hd : Vals dvs ds) (hx : Passes (L2.CX X.prog X.w) X E)
    (I : Inv X pins σ H s) (r : Vals vs us) (h : sp (vs ++ dvs) H Q E) : wpAny (model X.prog X.w) X.A (call (.ref f) us) (EP X pins σ Q) X.xe s := by
  have hv := r.append hd
  have hn : (us ++ ds).length = ps.length := hv.length.symm.trans (F.len _ _ _ _ h)
  refine wpAny_call (codeAny_mono (F.run X.A X.stack s H ⟨us, []⟩ _ _ Q E hr hgd I.env0 (hb s us I.kIn hn) hv h) ?_)
  intro r s' hq
  match r with
  | .error e => exact hx pins σ H s e s' I hq
  | .ok (.ret u) => exact I.after hq
  | .ok .next => exact hq.elim
  | .ok .brk => exact hq.elim
  | .ok .cont => exact hq.elim
theorem peg_call (F : FnG X.prog X.w X.K X.mg X.base k f fd ps sp) (hr : Room k X.A) (hgd : X.A.guards = some []) (hg : Gl X x) (hm : X.mg x = some (.ref f)) (hk : PySem.W.keepIn X.K (.ref f) = true) (hb : Binds X.K fd ps ds) (hd : Vals dvs ds) (hx : Passes (L2.CX X.prog X.w) X E) (ha : PA X (e :: es) t)
    (hdb : (x == ("__debug__" : Str)) = false) (he : starEach (e :: es) X.env = (false, eval e X.env) :: starEach es X.env) (hpl : (backTo pos (starEach es X.env)).any (·.1) = false) : PE X (.Call (.Name x p) (e :: es) [] pos) (tCall sp dvs E t) :=
  ⟨fun pins s σ H Q I h => wpAny_Call_Name_kw (ld_glob I hg hm (PySem.W.callWith_K (h₀ := X.base) I.ok.mod.kin hk (thn (ha.run pos pins s σ H _ I h) fun us s1 ⟨vs, H1, I1, r, q⟩ => ⟨I1.kIn, run_g F hr hgd hb hd hx I1 r q⟩) he hpl) hdb)⟩
theorem peg_call0 (F : FnG X.prog X.w X.K X.mg X.base k f fd ps sp) (hr : Room k X.A) (hgd : X.A.guards = some []) (hg : Gl X x) (hm : X.mg x = some (.ref f)) (hk : PySem.W.keepIn X.K (.ref f) = true) (hb : Binds X.K fd ps ds) (hd : Vals dvs ds) (hx : Passes (L2.CX X.prog X.w) X E)
    (hdb : (x == ("__debug__" : Str)) = false) : PE X (.Call (.Name x p) [] [] pos) (tCall sp dvs E tNil) :=
  ⟨fun pins s σ H Q I h => wpAny_Call_Name_kw (ld_glob I hg hm (PySem.W.callWith_K0 I.kIn hk (run_g (us := []) F hr hgd hb hd hx I .nil h)) hdb)⟩
theorem peg_meth {pl : Sem Bool} (ho : PE X o ta) (c : Cls X.K C) (hm : Meth X.K C m f) (F : FnG X.prog X.w X.K X.mg X.base k f fd ps sp) (hr : Room k X.A) (hgd : X.A.guards = some []) (hb : Binds X.K fd ps ds) (hd : Vals dvs ds) (hx : Passes (L2.CX X.prog X.w) X E) (ha : PA X (e :: es) t)
    (hst : starEach (e :: es) X.env = (false, eval e X.env) :: starEach es X.env) (hpl : (backTo pos (starEach es X.env)).any (·.1) = false)
    (ht : eval (.Call (.Attribute o m apos) (e :: es) [] pos) X.env = (do let ov ← eval o X.env; standAt apos.atName; let (f, first) ← holding [ov] (getMethod ov m pl); callWith pos f first (backTo pos (starEach (e :: es) X.env)) (backToKw pos (keywordEach [] X.env)))) :
    PE X (.Call (.Attribute o m apos) (e :: es) [] pos) (tMeth C m sp dvs E ta t) := by
  refine ⟨fun pins s σ H Q I h => PySem.W.methodCall_KW (pl := pl) (thn (ho.run pins s σ H _ I h) fun u s1 hh => ?_) ht⟩
  obtain ⟨x, H1, I1, rx, a, dx, fs, rfl, ea, l, q⟩ := hh
  obtain rfl : u = Value.ref a := rx
  exact getmeth_ok I1 ea c hm l (PySem.W.callWith_K (first := [.ref a]) (h₀ := X.base) I.ok.mod.kin hm.kp (thn (ha.run pos pins s1 σ H1 _ I1 q) fun us s2 ⟨vs, H2, I2, r, q2⟩ => ⟨I2.kIn, run_g (us := .ref a :: us) (vs := .ref a :: vs) F hr hgd hb hd hx I2 (.cons rfl r) q2⟩) hst hpl)
theorem peg_meth0 {pl : Sem Bool} (ho : PE X o ta) (c : Cls X.K C) (hm : Meth X.K C m f) (F : FnG X.prog X.w X.K X.mg X.base k f fd ps sp) (hr : Room k X.A) (hgd : X.A.guards = some []) (hb : Binds X.K fd ps ds) (hd : Vals dvs ds) (hx : Passes (L2.CX X.prog X.w) X E)
    (ht : eval (.Call (.Attribute o m apos) [] [] pos) X.env = (do let ov ← eval o X.env; standAt apos.atName; let (f, first) ← holding [ov] (getMethod ov m pl); callWith pos f first (backTo pos (starEach [] X.env)) (backToKw pos (keywordEach [] X.env)))) :
    PE X (.Call (.Attribute o m apos) [] [] pos) (tMeth C m sp dvs E ta tNil) := by
  refine ⟨fun pins s σ H Q I h => PySem.W.methodCall_KW (pl := pl) (thn (ho.run pins s σ H _ I h) fun u s1 hh => ?_) ht⟩
  obtain ⟨x, H1, I1, rx, a, dx, fs, rfl, ea, l, q⟩ := hh
  obtain rfl : u = Value.ref a := rx
  exact getmeth_ok I1 ea c hm l (PySem.W.callWith_K0 (first := [.ref a]) I1.kIn hm.kp (run_g (us := [.ref a]) (vs := [.ref a]) F hr hgd hb hd hx I1 (.cons rfl .nil) q))
end
/-! ### the law's own call -/
section
open PySem.Spec PyProof.Rows
theorem law_g {P : Program} {w : World} {K : PySem.W.Frag} {mg mb : Str → Option Value} {k : Nat} {fa a : Addr} {fd : FuncData} {x : Str} {sp : Sp} {s₁ : Shared} {vs : List Value} {ns : List Int}
    (KX : K.In s₁.heap) (hns : s₁.heap.Ns mainGlobals mg) (hb : s₁.heap.Ns builtinsNs mb) (hbb : ∀ x : Str, x ≠ "__name__" → mb x = bootBuiltins x) (hlim : s₁.heap.NoLimit) (hg : s₁.gens = #[])
    (ha : s₁.heap.get? a = some { cls := .type "list", data := .seq vs.toArray }) (hi : IntsAre vs ns) (hl : ns.length ≤ sizeLine) (hr : Room k callerA)
    (Fl : ∀ bs : Heap, K.In bs → bs.Ns mainGlobals mg → FnG P w K mg bs k fa fd [x] sp) (hbind : ∀ (s : Shared) (u : Value), BindsTo s fd ⟨[u], []⟩ [(x, u)])
    (hsp : ∀ H : Hp, Only H → SqL K H a (ns.map V.int) → sp [.ref a] H (fun v _ => v = .bl true) E0) :
    codeAny (model P w) callerA (.call (.ref fa) ⟨[.ref a], []⟩) (fun r s' => r = .ok (.ret (.bool true)) ∧ OldK s₁.heap s'.heap ∧ s'.os = s₁.os ∧ AllBare s'.gens) s₁ := by
  -- the abstract heap: the script alone, or nothing where it is the module's own
  have main : ∀ H : Hp, Only H → SqL K H a (ns.map V.int) → HOk P w H s₁.heap → (∀ b, H b ≠ none → b = a ∧ K.lookup a = none) →
      codeAny (model P w) callerA (.call (.ref fa) ⟨[.ref a], []⟩) (fun r s' => r = .ok (.ret (.bool true)) ∧ OldK s₁.heap s'.heap ∧ s'.os = s₁.os ∧ AllBare s'.gens) s₁ := by
    intro H hO hS hok hA
    have seen : ∀ {b : Addr} {o : Obj}, s₁.heap.get? b = some o → (∀ vs', o.data ≠ .seq vs' 0) → H b = none := fun {b o} e d => by
      cases q : H b with
      | none => rfl
      | some u =>
        obtain ⟨rfl, _⟩ := hA b (by rw [q]; simp)
        rw [ha] at e
        cases e
        exact (d _ rfl).elim
    have names : ∀ {b : Addr} {m : Str → Option Value}, s₁.heap.Ns b m → (hidT s₁.heap H).Ns b m := fun {b m} z => by
      obtain ⟨o, es, ep, e, d, r⟩ := z
      exact ⟨o, es, ep, hidT_get e (seen e fun vs' y => by rw [d] at y; cases y), d, r⟩
    have kin : K.In (hidT s₁.heap H) := fun b o e => hidT_get (KX b o e) (by
      cases q : H b with
      | none => rfl
      | some u =>
        obtain ⟨rfl, z⟩ := hA b (by rw [q]; simp)
        rw [z] at e; cases e)
    have md : Mod K mg (hidT s₁.heap H) := ⟨kin, names hns, ⟨mb, names hb, hbb⟩, by obtain ⟨mc, h1, h2⟩ := hlim; exact ⟨mc, names h1, h2⟩⟩
    have e0 : Env0 P w K mg (hidT s₁.heap H) callerA [] s₁ H := ⟨rfl, md, fun b o e => of_hidT e, Nat.le_of_eq (hidT_size _ _), trivial, fun b hb => absurd (show b ∈ ([] : List Addr) from hb) List.not_mem_nil, hok, .of_eq hg⟩
    refine codeAny_mono ((Fl _ kin (names hns)).run callerA [] s₁ H ⟨[.ref a], []⟩ [.ref a] [.ref a] _ _ hr rfl e0 (hbind s₁ (.ref a)) (.cons rfl .nil) (hsp H hO hS)) ?_
    intro r s' h
    match r with
    | .error e => obtain ⟨_, _, _, _, _, _, _, _, _, _, _, _, z⟩ := h; exact z.elim
    | .ok .next => exact h.elim
    | .ok .brk => exact h.elim
    | .ok .cont => exact h.elim
    | .ok (.ret u) =>
      obtain ⟨v, H', os, bare, un, hok', r', q⟩ := h
      have qv : v = .bl true := q
      subst qv
      have ru : u = Value.bool true := r'
      subst ru
      refine ⟨rfl, OldK.of_keep fun b o e => ?_, os, bare⟩
      rcases hO b with z | ⟨ob, xs, z⟩
      · exact un.keep b o e z (by intro y; cases y) (by intro y; cases y)
      · have k1 := (hok b _ z).1
        have k2 := (hok' b _ (un.frzs b ob _ z)).1
        rw [e] at k1
        injection k1 with k1
        rw [k1]; exact k2
  have rv := vals_ints hi
  cases hk : K.lookup a with
  | some o =>
    have e := KX a o hk
    rw [ha] at e
    injection e with e
    subst e
    exact main (fun _ => none) (fun _ => .inl rfl) (.inr ⟨_, vs.toArray, _, hk, rfl, rfl, rfl, by have z := hi.length; rw [List.size_toArray]; omega, by simpa using rv⟩) (fun b u z => nomatch z) fun b z => (z rfl).elim
  | none =>
    have fr : ∀ b, (upd (fun _ => none) a (.frz { cls := .type "list", data := .seq vs.toArray } (.lst (ns.map V.int))) : Hp) b ≠ none → b = a := fun b z => by
      by_cases q : b = a
      · exact q
      · rw [upd_ne q] at z; exact (z rfl).elim
    refine main (upd (fun _ => none) a (.frz { cls := .type "list", data := .seq vs.toArray } (.lst (ns.map V.int)))) (fun b => ?_) (.inl (.inr ⟨_, upd_same⟩)) (fun b u z => ?_) fun b z => ⟨fr b z, hk⟩
    · by_cases q : b = a
      · subst q; exact .inr ⟨_, _, upd_same⟩
      · exact .inl (upd_ne q)
    · have q : b = a := fr b (by rw [z]; simp)
      subst q
      rw [upd_same] at z
      injection z with z
      subst z
      exact ⟨ha, by simpa using hl, vs, _, rv, ha⟩
theorem walk_g {l : PySem.W.OpenLaw} {n k : Nat} {q : Program} {loose : List Str} {XP : (Str → Option Value) → Heap → Prop} {YP : World → Heap → Prop} {d : DefRec} {K : Params → PySem.W.Frag} {sp : World → Sp} {x : Str}
    (hn : l.most = some n) (hn2 : n ≤ sizeLine) (hdf : d.params.defaults = []) (hr : Room k callerA) (hY : ∀ (w : World) (h : Heap), YP w h → (K w.params).In h)
    (Fl : ∀ (w : World) (mg : Str → Option Value) (fa : Addr) (h : Heap), (K w.params).In h → h.Ns mainGlobals mg → mg d.name = some (.ref fa) →
      ∃ fd : FuncData, (∀ (s : Shared) (u : Value), BindsTo s fd ⟨[u], []⟩ [(x, u)]) ∧ ∀ bs : Heap, (K w.params).In bs → bs.Ns mainGlobals mg → FnG l.prog w (K w.params) mg bs k fa fd [x] (sp w))
    (hsp : ∀ (w : World) (H : Hp) (a : Addr) (ns : List Int), ns.length ≤ n → Only H → SqL (K w.params) H a (ns.map V.int) → sp w [.ref a] H (fun v _ => v = .bl true) E0) :
    PySem.W.WalkO q loose XP YP l.row.toRowW d [] (fun f vs => PySem.call f vs) := by
  refine _root_.Att.attach_call hn hdf ?_
  intro w s₀ s₁ mg mb fa o pm cd doc a vs ns G Y ho hd hcd hmg hobj hints hlen hg
  obtain ⟨fd, h1, h2⟩ := Fl w mg fa _ (hY w _ Y) G.T.g hmg
  exact law_g (hY w _ Y) G.T.g G.T.b G.T.builtins G.T.nolimit hg hobj hints (Nat.le_trans hlen hn2) hr h2 h1 fun H hO hS => hsp w H a ns hlen hO hS
end
end Fr
namespace Fr
open PySem L2

/-- a def that may be called by its name -/
structure Fd (P : Program) (w : World) (K : PySem.W.Frag) (mg : Str → Option Value) (bs : Heap) (cl : Str → Addr) (x : Str) (k : Nat) (mf : Mf) (dds : List D) (dvs : List V) : Prop where
  ex : ∃ (f : Addr) (fd : FuncData) (ps : List Str) (ds : List Value), FnG P w K mg bs k f fd ps (SpF ⟨K, cl⟩ mf) ∧ mg x = some (.ref f) ∧ PySem.W.keepIn K (.ref f) = true ∧ Binds K fd ps ds ∧ Vals dvs ds ∧ ∀ F, Rs ⟨K, cl⟩ F dds dvs
/-- the built-ins' names are not the module's -/
structure Bn (mg : Str → Option Value) : Prop where
  len : mg "len" = none
  range : mg "range" = none
  isinstance : mg "isinstance" = none
  all : mg "all" = none
  any : mg "any" = none
  tuple : mg "tuple" = none
  list : mg "list" = none
  sorted : mg "sorted" = none
  set : mg "set" = none
  sum : mg "sum" = none
  repr : mg "repr" = none
  int : mg "int" = none
  abs : mg "abs" = none
  max : mg "max" = none
  min : mg "min" = none
  enumerate : mg "enumerate" = none
  zip : mg "zip" = none
  str : mg "str" = none
  bool : mg "bool" = none
  dict : mg "dict" = none
section
variable {X : Cx} {K : PySem.W.Frag} {cl : Str → Addr} {E : XK} {kk : Nat} {e : Expr} {es : List Expr} {pos p : Pos} {x : Str} {t : TA} {m : EV → Out (List Rv × EV)}
theorem se_fn {k : Nat} {mf : Mf} {dds : List D} {dvs : List V} (C : Cw X K E kk) (h : Fd X.prog X.w K X.mg X.base cl x k mf dds dvs) (ha : SA X K cl E (e :: es) t m) (hk : k ≤ kk := by decide) (hg : Gl X x := by rfl) (hdb : (x == ("__debug__" : Str)) = false := by decide)
    (he : starEach (e :: es) X.env = (false, eval e X.env) :: starEach es X.env := by rfl) (hpl : (backTo pos (starEach es X.env)).any (·.1) = false := by rfl) :
    SE X K cl E (.Call (.Name x p) (e :: es) [] pos) (tCall (SpF ⟨K, cl⟩ mf) dvs E t) (mFn mf dds m) := by
  obtain ⟨kq, room, gd, calm, pass⟩ := C
  subst kq
  obtain ⟨f, fd, ps, ds, F, hm, kp, b, hd, hdd⟩ := h.ex
  exact ⟨peg_call F (room.mono hk) gd hg hm kp b hd pass ha.1 hdb he hpl, md_fn hdd ha.2⟩
theorem se_fn0 {k : Nat} {mf : Mf} {dds : List D} {dvs : List V} (C : Cw X K E kk) (h : Fd X.prog X.w K X.mg X.base cl x k mf dds dvs) (hk : k ≤ kk := by decide) (hg : Gl X x := by rfl) (hdb : (x == ("__debug__" : Str)) = false := by decide) :
    SE X K cl E (.Call (.Name x p) [] [] pos) (tCall (SpF ⟨K, cl⟩ mf) dvs E tNil) (mFn mf dds aNil) := by
  obtain ⟨kq, room, gd, calm, pass⟩ := C
  subst kq
  obtain ⟨f, fd, ps, ds, F, hm, kp, b, hd, hdd⟩ := h.ex
  exact ⟨peg_call0 F (room.mono hk) gd hg hm kp b hd pass hdb, md_fn hdd (fun F H ρ σ Q e p => p F H [] (.refl e) .nil)⟩
end
section
variable {P : Program} {w : World} {K : PySem.W.Frag} {mg : Str → Option Value} {bs : Heap} {cl : Str → Addr}
theorem fun_g {x qual : Str} {st : Stmt} {f : Addr} {fd : FuncData} {N ps : List Str} {k : Nat} {mb : EV → Out (Fl × EV)} (Fu : Fun K x qual st f fd) (S : FnScope N ps (defScope st))
    (hbody : ∀ (cdv : Value) (A : Around) (out : List Env) (s : Shared) (H : Hp) (E : XK), Cw (cxOf (L2.CX P w) P w K mg bs N qual (defScope st) f cdv A out s H E) K E k →
      ∃ t, SB (cxOf (L2.CX P w) P w K mg bs N qual (defScope st) f cdv A out s H E) K cl E ps.length (defBody st) t mb) : FnG P w K mg bs (k + 1) f fd ps (SpF ⟨K, cl⟩ (runF ps.length N.length mb)) := by
  obtain ⟨oc, od, kV, doc, pm, an, cdv, ct, osl, rfl, lk, hcd⟩ := Fu.ex
  refine fng_of lk hcd S (fun vs H Q E h => ?_) (fun A out s H vs Q E hr hgd h => ?_)
  · obtain ⟨F, as, e, _, p⟩ := h
    have hl : as.length = vs.length := by have := e.len; simpa using this
    unfold runF at p
    by_cases q : as.length = ps.length
    · omega
    · rw [if_neg q] at p; exact p.elim
  · obtain ⟨F, as, e, _, p⟩ := h
    obtain ⟨t, h1, h2⟩ := hbody cdv A out s H E ⟨rfl, hr, hgd, rfl, passes_call (takes_of rfl rfl rfl rfl) fun _ _ _ _ z => z⟩
    refine ⟨t, h1, ?_⟩
    have hl : as.length = vs.length := by have := e.len; simpa using this
    unfold runF at p
    by_cases q : as.length = ps.length
    · rw [if_pos q] at p
      refine h2 ⟨F, H, as, vs⟩ F H _ _ _ q (StI.start (N := N) e) ?_
      rw [q]
      revert p
      cases mb (as ++ List.replicate (N.length - ps.length) none) with
      | bad => exact id
      | ex c fs ρ => exact fun p F' H' σ' cls dd s' x => p F' H' cls dd (s'.leave e) x
      | ok y =>
        obtain ⟨fl, ρ⟩ := y
        cases fl with
        | brk => exact False.elim
        | cont => exact False.elim
        | next => exact fun p F' H' σ' s' => p F' H' .non (s'.leave e) .non
        | ret r => exact fun p F' H' σ' v s' rr => p F' H' v (s'.leave e) (by
            cases r with
            | val d => exact rr
            | own d => exact rr
            | ref i => exact rr.elim)
    · rw [if_neg q] at p; exact p.elim
/-- the loops of a def let what is raised pass -/
theorem own_passes {qual : Str} {sc : Scope} {f : Addr} {N : List Str} {cdv : Value} {A : Around} {out : List Env} {s : Shared} {H : Hp} {E : XK} : PassesOwn (model P w) (cxOf (L2.CX P w) P w K mg bs N qual sc f cdv A out s H E).A (cxOf (L2.CX P w) P w K mg bs N qual sc f cdv A out s H E).env (cxOf (L2.CX P w) P w K mg bs N qual sc f cdv A out s H E).xe :=
  passes_of (X := cxOf (L2.CX P w) P w K mg bs N qual sc f cdv A out s H E) rfl
end
end Fr
namespace Fr
open PySem L2

/-! ### data without dicts -/
section
variable {G : Gx} {F H : Hp}
mutual
theorem R.dp (s : Same F H) : ∀ {d : D} {v : V}, R G F d v → d.canLay0 = true → Dp G.K H v d
  | _, _, .non, _ => .non
  | _, _, .bl b, _ => .bl b
  | _, _, .int i, _ => .int i
  | _, _, .str x, _ => .str x
  | _, _, .lst h r, c => .lst (.of (s _ _ h)) (Rs.dp s r (by simpa [PyData.canLay0] using c))
  | _, _, .tup h r, c => .tup (sqT_same s h) (Rs.dp s r (by simpa [PyData.canLay0] using c))
  | _, _, .dK h r, c => by simp [PyData.canLay0] at c
  | _, _, .dT h r, c => by simp [PyData.canLay0] at c
  | _, _, .obj h k r, c => by simp [PyData.canLay0] at c
  | _, _, .scr h, c => by simp [PyData.canLay0] at c
theorem Rs.dp (s : Same F H) : ∀ {ds : List D} {vs : List V}, Rs G F ds vs → PyData.canLayAll0 ds = true → DpAll G.K H vs ds
  | _, _, .nil, _ => .nil
  | _, _, .cons h r, c => by
    rw [PyData.canLayAll0, Bool.and_eq_true] at c
    exact .cons (R.dp s h c.1) (Rs.dp s r c.2)
end
theorem Rd.dp (s : Same F H) {d : D} {v : V} (h : Rd G F H d v) (c : d.canLay0 = true) : Dp G.K H v d := by
  cases d with
  | none => cases h; exact .non
  | bool b => cases h; exact .bl b
  | int i => cases h; exact .int i
  | str x => cases h; exact .str x
  | list ds => obtain ⟨a, xs, rfl, q, r⟩ := h; exact .lst (.of q) (r.dp s (by simpa [PyData.canLay0] using c))
  | tuple ds => obtain ⟨a, xs, rfl, q, r⟩ := h; exact .tup (sqT_same s q) (r.dp s (by simpa [PyData.canLay0] using c))
  | dict es => simp [PyData.canLay0] at c
theorem okS_val {Q : VK} {d : D} {v : V} (s : Same F H) (h : okS G F H Q (some (.val d))) (r : R G F d v) : Q v H := h F H v (.refl s) r
theorem okS_list {Q : VK} {ds : List D} {vs : List V} (s : Same F H) (h : okS G F H Q (some (.own (.list ds)))) (r : Rs G F ds vs) {p : Addr} (n : H p = none) : Q (.ref p) (upd H p (.lst vs)) :=
  h F _ _ (.beside s n) ⟨p, rfl, s.free n, n, vs, upd_same, r⟩
theorem okS_tup {Q : VK} {ds : List D} {vs : List V} (s : Same F H) (h : okS G F H Q (some (.val (.tuple ds)))) (r : Rs G F ds vs) {p : Addr} (n : H p = none) : Q (.ref p) (upd H p (.tup vs)) :=
  h _ _ _ (.put s n) (.tup (.of upd_same) (r.mono (Grow.put (F := F) s n).fr))
end

/-! ### == and != -/
def eqD0 (d e : D) : Option Sl := if (SeqAt.shaped d && SeqAt.shaped e) = true then some (.val (.bool (PyData.eqv d e))) else none
def neD0 (d e : D) : Option Sl := if (SeqAt.shaped d && SeqAt.shaped e) = true then some (.val (.bool (!PyData.eqv d e))) else none
section
variable {G : Gx} {X : Cx} {K : PySem.W.Frag} {cl : Str → Addr} {E : XK} {kk : Nat}
theorem v_eq0 : Op2 G (rEqD G.K) eqD0 := fun F H d e x y Q s rx ry h => by
  unfold eqD0 at h
  by_cases q : (SeqAt.shaped d && SeqAt.shaped e) = true
  · rw [if_pos q] at h
    obtain ⟨q1, q2⟩ := Bool.and_eq_true_iff.mp q
    exact ⟨d, e, rx.dp s (SeqAt.canLay_of_shaped q1), ry.dp s (SeqAt.canLay_of_shaped q2), q1, q2, okS_val s h (.bl _)⟩
  · rw [if_neg q] at h; exact h.elim
theorem v_ne0 : Op2 G (rNeD G.K) neD0 := fun F H d e x y Q s rx ry h => by
  unfold neD0 at h
  by_cases q : (SeqAt.shaped d && SeqAt.shaped e) = true
  · rw [if_pos q] at h
    obtain ⟨q1, q2⟩ := Bool.and_eq_true_iff.mp q
    exact ⟨d, e, rx.dp s (SeqAt.canLay_of_shaped q1), ry.dp s (SeqAt.canLay_of_shaped q2), q1, q2, okS_val s h (.bl _)⟩
  · rw [if_neg q] at h; exact h.elim
theorem Cw.u64 (C : Cw X K E kk) : X.A.units + 64 < cLine := C.room.units
theorem Cw.u65 (C : Cw X K E kk) : X.A.units + 65 < cLine := by have := C.room.un; omega
/-! ### ints -/
def ltD : D → D → Option Sl
  | .int i, .int j => some (.val (.bool (decide (i < j))))
  | _, _ => none
def leD : D → D → Option Sl
  | .int i, .int j => some (.val (.bool (decide (i ≤ j))))
  | _, _ => none
def gtD : D → D → Option Sl
  | .int i, .int j => some (.val (.bool (decide (j < i))))
  | _, _ => none
def geD : D → D → Option Sl
  | .int i, .int j => some (.val (.bool (decide (j ≤ i))))
  | _, _ => none
theorem v_int2 {f : D → D → Option Sl} {g : Int → Int → V} {g' : Int → Int → D} (hf : ∀ i j, f (.int i) (.int j) = some (.val (g' i j))) (hn : ∀ d e, (∀ i j, ¬ (d = .int i ∧ e = .int j)) → f d e = none) (hr : ∀ F i j, R G F (g' i j) (g i j)) : Op2 G (rI0 g) f := fun F H d e x y Q s rx ry h => by
  by_cases q : ∃ i j, d = .int i ∧ e = .int j
  · obtain ⟨i, j, rfl, rfl⟩ := q
    rw [hf] at h
    exact ⟨i, j, rx, ry, okS_val s h (hr F i j)⟩
  · rw [hn d e fun i j z => q ⟨i, j, z⟩] at h; exact h.elim
theorem v_lt : Op2 G (rI0 fun i j => .bl (decide (i < j))) ltD := v_int2 (fun _ _ => rfl) (fun d e h => by cases d <;> cases e <;> first | rfl | exact (h _ _ ⟨rfl, rfl⟩).elim) fun _ _ _ => .bl _
theorem v_le : Op2 G (rI0 fun i j => .bl (decide (i ≤ j))) leD := v_int2 (fun _ _ => rfl) (fun d e h => by cases d <;> cases e <;> first | rfl | exact (h _ _ ⟨rfl, rfl⟩).elim) fun _ _ _ => .bl _
theorem v_gt : Op2 G (rI0 fun i j => .bl (decide (j < i))) gtD := v_int2 (fun _ _ => rfl) (fun d e h => by cases d <;> cases e <;> first | rfl | exact (h _ _ ⟨rfl, rfl⟩).elim) fun _ _ _ => .bl _
theorem v_ge : Op2 G (rI0 fun i j => .bl (decide (j ≤ i))) geD := v_int2 (fun _ _ => rfl) (fun d e h => by cases d <;> cases e <;> first | rfl | exact (h _ _ ⟨rfl, rfl⟩).elim) fun _ _ _ => .bl _
/-- two rules for one operation -/
theorem Op2.or {r r' : R2} {f g : D → D → Option Sl} (h : Op2 G r f) (k : Op2 G r' g) : Op2 G (fun x y H Q => r x y H Q ∨ r' x y H Q) (fun d e => (f d e).or (g d e)) := fun F H d e x y Q s rx ry q => by
  dsimp only at q
  cases z : f d e with
  | some sl => rw [z] at q; exact .inl (h F H d e x y Q s rx ry (by rw [z]; exact q))
  | none => rw [z] at q; exact .inr (k F H d e x y Q s rx ry q)
theorem OpN.or {r r' : List V → Hp → VK → Prop} {f g : List D → Option Sl} (h : OpN G r f) (k : OpN G r' g) : OpN G (fun x H Q => r x H Q ∨ r' x H Q) (fun d => (f d).or (g d)) := fun F H d x Q s rx q => by
  dsimp only at q
  cases z : f d with
  | some sl => rw [z] at q; exact .inl (h F H d x Q s rx (by rw [z]; exact q))
  | none => rw [z] at q; exact .inr (k F H d x Q s rx q)
/-! + -/
def addI : D → D → Option Sl
  | .int i, .int j => some (.val (.int (i + j)))
  | _, _ => none
def addS : D → D → Option Sl
  | .str x, .str y => if x.length + y.length ≤ sizeLine then some (.val (.str (x ++ y))) else none
  | _, _ => none
def addL : D → D → Option Sl
  | .list xs, .list ys => if xs.length + ys.length ≤ sizeLine then some (.own (.list (xs ++ ys))) else none
  | _, _ => none
def addT : D → D → Option Sl
  | .tuple xs, .tuple ys => if xs.length + ys.length ≤ sizeLine then some (.val (.tuple (xs ++ ys))) else none
  | _, _ => none
def addD (d e : D) : Option Sl := (addI d e).or ((addS d e).or ((addL d e).or (addT d e)))
theorem v_addI : Op2 G (rI0 fun i j => .int (i + j)) addI := v_int2 (fun _ _ => rfl) (fun d e h => by cases d <;> cases e <;> first | rfl | exact (h _ _ ⟨rfl, rfl⟩).elim) fun _ _ _ => .int _
theorem v_addS : Op2 G (fun x y H Q => ∃ i j, x = .str i ∧ y = .str j ∧ i.length + j.length ≤ sizeLine ∧ Q (.str (i ++ j)) H) addS := fun F H d e x y Q s rx ry h => by
  cases d <;> cases e <;> first | exact h.elim | skip
  rename_i a b
  simp only [addS] at h
  by_cases q : a.length + b.length ≤ sizeLine
  · rw [if_pos q] at h; exact ⟨a, b, rx, ry, q, okS_val s h (.str _)⟩
  · rw [if_neg q] at h; exact h.elim
theorem v_addL : Op2 G rCat addL := fun F H d e x y Q s rx ry h => by
  cases d <;> cases e <;> first | exact h.elim | skip
  rename_i a b
  simp only [addL] at h
  by_cases q : a.length + b.length ≤ sizeLine
  · rw [if_pos q] at h
    obtain ⟨p1, xs, rfl, h1, r1⟩ := rx
    obtain ⟨p2, ys, rfl, h2, r2⟩ := ry
    exact ⟨p1, p2, xs, ys, rfl, rfl, h1, h2, by rw [r1.length, r2.length]; exact q, fun p n => okS_list s h (r1.append r2) n⟩
  · rw [if_neg q] at h; exact h.elim
theorem v_addT : Op2 G (rCatA G.K) addT := fun F H d e x y Q s rx ry h => by
  cases d <;> cases e <;> first | exact h.elim | skip
  rename_i a b
  simp only [addT] at h
  by_cases q : a.length + b.length ≤ sizeLine
  · rw [if_pos q] at h
    obtain ⟨p1, xs, rfl, h1, r1⟩ := rx
    obtain ⟨p2, ys, rfl, h2, r2⟩ := ry
    refine ⟨p1, p2, xs, ys, rfl, rfl, sqT_same s h1, sqT_same s h2, by rw [r1.length, r2.length]; exact q, ?_, ?_, ?_⟩
    · intro e
      subst e
      cases r1
      exact okS_val s h (.tup h2 r2)
    · intro _ e
      subst e
      cases r2
      rw [List.append_nil] at h
      exact okS_val s h (.tup h1 r1)
    · exact fun _ _ p n => okS_tup s h (r1.append r2) n
  · rw [if_neg q] at h; exact h.elim
theorem or_add (C : Cw X K E kk) : OpR X (binaryOp .Add) (fun x y H Q => rI0 (fun i j => .int (i + j)) x y H Q ∨ (∃ i j, x = .str i ∧ y = .str j ∧ i.length + j.length ≤ sizeLine ∧ Q (.str (i ++ j)) H) ∨ rCat x y H Q ∨ rCatA K x y H Q) := C.kq ▸ op_add.or (op_add_str.or (op_cat.or op_catA))
theorem v_add : Op2 ⟨K, cl⟩ (fun x y H Q => rI0 (fun i j => .int (i + j)) x y H Q ∨ (∃ i j, x = .str i ∧ y = .str j ∧ i.length + j.length ≤ sizeLine ∧ Q (.str (i ++ j)) H) ∨ rCat x y H Q ∨ rCatA K x y H Q) addD := v_addI.or (v_addS.or (v_addL.or v_addT))
/-! ints: - * // % ** -/
def subD : D → D → Option Sl
  | .int i, .int j => some (.val (.int (i - j)))
  | _, _ => none
theorem v_sub : Op2 G (rI0 fun i j => .int (i - j)) subD := v_int2 (fun _ _ => rfl) (fun d e h => by cases d <;> cases e <;> first | rfl | exact (h _ _ ⟨rfl, rfl⟩).elim) fun _ _ _ => .int _
theorem v_intC {C : Int → Int → Prop} [∀ i j, Decidable (C i j)] {f : D → D → Option Sl} {g : Int → Int → Int} (hf : ∀ i j, f (.int i) (.int j) = if C i j then some (.val (.int (g i j))) else none) (hn : ∀ d e, (∀ i j, ¬ (d = .int i ∧ e = .int j)) → f d e = none) : Op2 G (rI C fun i j => .int (g i j)) f := fun F H d e x y Q s rx ry h => by
  by_cases q : ∃ i j, d = .int i ∧ e = .int j
  · obtain ⟨i, j, rfl, rfl⟩ := q
    rw [hf] at h
    by_cases c : C i j
    · rw [if_pos c] at h; exact ⟨i, j, rx, ry, c, okS_val s h (.int _)⟩
    · rw [if_neg c] at h; exact h.elim
  · rw [hn d e fun i j z => q ⟨i, j, z⟩] at h; exact h.elim
instance (i j : Int) : Decidable (CMulW i j) := by unfold CMulW; infer_instance
instance (i j : Int) : Decidable (CDivW i j) := by unfold CDivW; infer_instance
instance (i j : Int) : Decidable (CPow i j) := by unfold CPow; infer_instance
def mulI : D → D → Option Sl
  | .int i, .int j => if CMulW i j then some (.val (.int (i * j))) else none
  | _, _ => none
def divD : D → D → Option Sl
  | .int i, .int j => if CDivW i j then some (.val (.int (i / j))) else none
  | _, _ => none
def modD : D → D → Option Sl
  | .int i, .int j => if 0 < j then some (.val (.int (i % j))) else none
  | _, _ => none
def powD : D → D → Option Sl
  | .int i, .int j => if CPow i j then some (.val (.int (i ^ j.toNat))) else none
  | _, _ => none
theorem v_mulI : Op2 G (rI CMulW fun i j => .int (i * j)) mulI := v_intC (fun _ _ => rfl) fun d e h => by cases d <;> cases e <;> first | rfl | exact (h _ _ ⟨rfl, rfl⟩).elim
theorem v_div : Op2 G (rI CDivW fun i j => .int (i / j)) divD := v_intC (fun _ _ => rfl) fun d e h => by cases d <;> cases e <;> first | rfl | exact (h _ _ ⟨rfl, rfl⟩).elim
theorem v_mod : Op2 G (rI (fun _ j => 0 < j) fun i j => .int (i % j)) modD := v_intC (fun _ _ => rfl) fun d e h => by cases d <;> cases e <;> first | rfl | exact (h _ _ ⟨rfl, rfl⟩).elim
theorem v_pow : Op2 G (rI CPow fun i j => .int (i ^ j.toNat)) powD := v_intC (fun _ _ => rfl) fun d e h => by cases d <;> cases e <;> first | rfl | exact (h _ _ ⟨rfl, rfl⟩).elim
def negD : D → Option Sl
  | .int i => some (.val (.int (-i)))
  | _ => none
theorem v_neg : Op1 G (rU fun i => .int (-i)) negD := fun F H d x Q s rx h => by
  cases d <;> first | exact h.elim | skip
  rename_i i
  exact ⟨i, rx, okS_val s h (.int _)⟩
def mulL : D → D → Option Sl
  | .list xs, .int k => if -(2 ^ 63) ≤ k ∧ k < 2 ^ 63 ∧ xs.length * k.toNat ≤ sizeLine then some (.own (.list (List.replicate k.toNat xs).flatten)) else none
  | _, _ => none
theorem Rs.rep {F : Hp} {ds : List D} {vs : List V} (h : Rs G F ds vs) : ∀ k : Nat, Rs G F (List.replicate k ds).flatten (List.replicate k vs).flatten
  | 0 => .nil
  | k + 1 => by rw [List.replicate_succ, List.replicate_succ, List.flatten_cons, List.flatten_cons]; exact h.append (Rs.rep h k)
theorem v_mulL : Op2 G rRep mulL := fun F H d e x y Q s rx ry h => by
  cases d <;> cases e <;> first | exact h.elim | skip
  rename_i xs k
  simp only [mulL] at h
  by_cases q : -(2 ^ 63) ≤ k ∧ k < 2 ^ 63 ∧ xs.length * k.toNat ≤ sizeLine
  · rw [if_pos q] at h
    obtain ⟨p1, ys, rfl, h1, r1⟩ := rx
    exact ⟨p1, k, ys, rfl, ry, h1, q.1, q.2.1, by rw [r1.length]; exact q.2.2, fun p n => okS_list s h (r1.rep _) n⟩
  · rw [if_neg q] at h; exact h.elim
def mulD (d e : D) : Option Sl := (mulI d e).or (mulL d e)
theorem or_mul : OpR X (binaryOp .Mult) (fun x y H Q => rI CMulW (fun i j => .int (i * j)) x y H Q ∨ rRep x y H Q) := op_mulW.or op_rep
theorem v_mul : Op2 G (fun x y H Q => rI CMulW (fun i j => .int (i * j)) x y H Q ∨ rRep x y H Q) mulD := v_mulI.or v_mulL
/-! is None, is not None, is True .. -/
def isNone : D → Bool
  | .none => true
  | _ => false
def isN : D → D → Option Sl
  | d, .none => some (.val (.bool (isNone d)))
  | _, _ => none
def notN : D → D → Option Sl
  | d, .none => some (.val (.bool (!isNone d)))
  | _, _ => none
theorem Rd.non {F H : Hp} {d : D} {v : V} (h : Rd G F H d v) : decide (v = .non) = isNone d := by
  cases d with
  | none => cases h; rfl
  | bool b => cases h; rfl
  | int b => cases h; rfl
  | str b => cases h; rfl
  | list ds => obtain ⟨a, xs, rfl, _⟩ := h; rfl
  | tuple ds => obtain ⟨a, xs, rfl, _⟩ := h; rfl
  | dict ds => obtain ⟨a, rfl, _⟩ := h; rfl
theorem v_isN : Op2 G (fun x y H Q => y = .non ∧ Q (.bl (decide (x = .non))) H) isN := fun F H d e x y Q s rx ry h => by
  cases e <;> first | exact h.elim | skip
  refine ⟨ry, ?_⟩
  rw [rx.non]; exact okS_val s h (.bl _)
theorem v_notN : Op2 G (fun x y H Q => y = .non ∧ Q (.bl (!decide (x = .non))) H) notN := fun F H d e x y Q s rx ry h => by
  cases e <;> first | exact h.elim | skip
  refine ⟨ry, ?_⟩
  rw [rx.non]; exact okS_val s h (.bl _)
def isB : D → D → Option Sl
  | .bool a, .bool b => some (.val (.bool (decide (a = b))))
  | _, _ => none
def notB : D → D → Option Sl
  | .bool a, .bool b => some (.val (.bool (!decide (a = b))))
  | _, _ => none
theorem v_isB : Op2 G (fun x y H Q => ∃ a b, x = .bl a ∧ y = .bl b ∧ Q (.bl (decide (a = b))) H) isB := fun F H d e x y Q s rx ry h => by
  cases d <;> cases e <;> first | exact h.elim | skip
  exact ⟨_, _, rx, ry, okS_val s h (.bl _)⟩
theorem v_notB : Op2 G (fun x y H Q => ∃ a b, x = .bl a ∧ y = .bl b ∧ Q (.bl (!decide (a = b))) H) notB := fun F H d e x y Q s rx ry h => by
  cases d <;> cases e <;> first | exact h.elim | skip
  exact ⟨_, _, rx, ry, okS_val s h (.bl _)⟩
/-! in, not in -/
def inS : D → D → Option Sl
  | .str c, .str z => match c.cps with
    | ⟨[k]⟩ => some (.val (.bool (decide (k ∈ z.cps.toList))))
    | _ => none
  | _, _ => none
def ninS : D → D → Option Sl
  | .str c, .str z => match c.cps with
    | ⟨[k]⟩ => some (.val (.bool (!decide (k ∈ z.cps.toList))))
    | _ => none
  | _, _ => none
theorem v_inS : Op2 G (fun x y H Q => ∃ (c : Nat) (z : Str), x = .str ⟨#[c]⟩ ∧ y = .str z ∧ Q (.bl (decide (c ∈ z.cps.toList))) H) inS := fun F H d e x y Q s rx ry h => by
  cases d <;> cases e <;> first | exact h.elim | skip
  rename_i c z
  obtain ⟨⟨l⟩⟩ := c
  match l, h with
  | [k], h => exact ⟨k, z, rx, ry, okS_val s h (.bl _)⟩
theorem v_ninS : Op2 G (fun x y H Q => ∃ (c : Nat) (z : Str), x = .str ⟨#[c]⟩ ∧ y = .str z ∧ Q (.bl (!decide (c ∈ z.cps.toList))) H) ninS := fun F H d e x y Q s rx ry h => by
  cases d <;> cases e <;> first | exact h.elim | skip
  rename_i c z
  obtain ⟨⟨l⟩⟩ := c
  match l, h with
  | [k], h => exact ⟨k, z, rx, ry, okS_val s h (.bl _)⟩
/-! subscripts -/
def ixL : D → D → Option Sl
  | .list xs, .int i => (atI xs i).map .val
  | _, _ => none
def ixT : D → D → Option Sl
  | .tuple xs, .int i => (atI xs i).map .val
  | _, _ => none
def ixS : D → D → Option Sl
  | .str z, .int i => if z.length ≤ sizeLine then (atI z.cps.toList i).map fun c => .val (.str ⟨#[c]⟩) else none
  | _, _ => none
def ixD (d e : D) : Option Sl := (ixL d e).or ((ixT d e).or (ixS d e))
theorem atI_rs {F : Hp} {ds : List D} {vs : List V} (r : Rs G F ds vs) {i : Int} {d : D} (h : atI ds i = some d) : ∃ v, atI vs i = some v ∧ R G F d v := by
  unfold atI at h ⊢
  rw [r.length]
  cases q : ixN ds.length i with
  | none => rw [q] at h; cases h
  | some j =>
    rw [q] at h
    exact r.getD h
theorem v_ixL : Op2 G (rIxL G.K) ixL := fun F H d e x y Q s rx ry h => by
  cases d <;> cases e <;> first | exact h.elim | skip
  rename_i xs i
  obtain ⟨p1, ys, rfl, h1, r1⟩ := rx
  simp only [ixL] at h
  cases q : atI xs i with
  | none => rw [q] at h; exact h.elim
  | some d =>
    rw [q] at h
    obtain ⟨v, k1, k2⟩ := atI_rs r1 q
    exact ⟨p1, ys, i, v, rfl, ry, .of h1, k1, okS_val s h k2⟩
theorem v_ixT : Op2 G (rIxT G.K) ixT := fun F H d e x y Q s rx ry h => by
  cases d <;> cases e <;> first | exact h.elim | skip
  rename_i xs i
  obtain ⟨p1, ys, rfl, h1, r1⟩ := rx
  simp only [ixT] at h
  cases q : atI xs i with
  | none => rw [q] at h; exact h.elim
  | some d =>
    rw [q] at h
    obtain ⟨v, k1, k2⟩ := atI_rs r1 q
    exact ⟨p1, ys, i, v, rfl, ry, sqT_same s h1, k1, okS_val s h k2⟩
theorem v_ixS : Op2 G rIxS ixS := fun F H d e x y Q s rx ry h => by
  cases d <;> cases e <;> first | exact h.elim | skip
  rename_i z i
  simp only [ixS] at h
  by_cases hz : z.length ≤ sizeLine
  · rw [if_pos hz] at h
    cases q : atI z.cps.toList i with
    | none => rw [q] at h; exact h.elim
    | some c => rw [q] at h; exact ⟨z, i, c, rx, ry, hz, q, okS_val s h (.str _)⟩
  · rw [if_neg hz] at h; exact h.elim
theorem v_ix : Op2 G (rIx G.K) ixD := v_ixL.or (v_ixT.or v_ixS)
/-! slices -/
def cutD (xs : List D) (lo hi : Option Int) : List D := (xs.drop (HT.sIx xs.length 0 lo)).take (HT.sIx xs.length xs.length hi - HT.sIx xs.length 0 lo)
theorem Rs.cut {F : Hp} {ds : List D} {vs : List V} (r : Rs G F ds vs) (lo hi : Option Int) : Rs G F (cutD ds lo hi) (cutV vs lo hi) := by
  unfold cutD cutV
  rw [r.length]
  exact (r.drop _).take _
def slD (d : D) (lo hi : Option Int) : Option Sl := match d with
  | .list xs => some (.own (.list (cutD xs lo hi)))
  | .tuple xs => some (.val (.tuple (cutD xs lo hi)))
  | .str z => if z.length ≤ sizeLine then some (.val (.str (cutS z lo hi))) else none
  | .dict [(.none, .list xs)] => some (.own (.list (cutD xs lo hi)))
  | _ => none
theorem rs_ints {F : Hp} : ∀ ns : List Int, Rs G F (ns.map PyData.int) (ns.map V.int)
  | [] => .nil
  | n :: ns => .cons (.int n) (rs_ints ns)
def rSlice (K : PySem.W.Frag) : V → Option Int → Option Int → Hp → VK → Prop := fun x lo hi H Q => rSlL K x lo hi H Q ∨ rSlA K x lo hi H Q ∨ rSlS x lo hi H Q
theorem or_slice (C : Cw X K E kk) : L2.SlR X (rSlice K) := C.kq ▸ sl_list.or (sl_tupA.or sl_str)
theorem cutD_all (xs : List D) (lo hi : Option Int) (h : HT.sIx xs.length 0 lo = 0 ∧ HT.sIx xs.length xs.length hi = xs.length) : cutD xs lo hi = xs := by
  unfold cutD; rw [h.1, h.2]; simp
theorem v_slice {F H : Hp} {d : D} {x : V} {lo hi : Option Int} {Q : VK} (s : Same F H) (rx : Rd G F H d x) (h : okS G F H Q (slD d lo hi)) : rSlice G.K x lo hi H Q := by
  cases d <;> first | exact h.elim | skip
  · rename_i z
    simp only [slD] at h
    by_cases hz : z.length ≤ sizeLine
    · rw [if_pos hz] at h; exact .inr (.inr ⟨z, rx, hz, okS_val s h (.str _)⟩)
    · rw [if_neg hz] at h; exact h.elim
  · rename_i xs
    obtain ⟨p1, ys, rfl, h1, r1⟩ := rx
    exact .inl ⟨p1, ys, rfl, .of h1, fun p n => okS_list s h (r1.cut lo hi) n⟩
  · rename_i xs
    obtain ⟨p1, ys, rfl, h1, r1⟩ := rx
    refine .inr (.inl ⟨p1, ys, rfl, sqT_same s h1, fun z => ?_, fun z p n => okS_tup s h (r1.cut lo hi) n⟩)
    rw [r1.length] at z
    simp only [slD, cutD_all xs lo hi z] at h
    exact okS_val s h (.tup h1 r1)
  · rename_i es
    obtain ⟨a, rfl, q⟩ := rx
    rcases q with ⟨kvs, q, r⟩ | ⟨kvs, q, r⟩ | ⟨c, es', dx, fs, rfl, q, r⟩ | ⟨ns, rfl, q⟩
    · cases r with
      | nil => exact h.elim
      | @cons k _ _ _ _ _ _ => cases k <;> exact h.elim
    · cases r <;> exact h.elim
    · exact h.elim
    · exact .inl ⟨a, _, rfl, sqL_same s q, fun p n => okS_list s h ((rs_ints ns).cut lo hi) n⟩
/-- a slice's part -/
def MdP (G : Gx) (E : XK) (t : TO) (m : EV → Out (Option Int × EV)) : Prop := ∀ F H ρ σ Q, EnvR G F H ρ σ → PostG (fun (x : Option Int × EV) => ∀ F' H', Stp G F H ρ F' H' x.2 σ → Q x.1 H') (XC G E F H σ ρ) (m ρ) → t σ H Q
def SP' (X : Cx) (K : PySem.W.Frag) (cl : Str → Addr) (E : XK) (e : Option Expr) (t : TO) (m : EV → Out (Option Int × EV)) : Prop := PO X e t ∧ MdP ⟨K, cl⟩ E t m
def pNo : EV → Out (Option Int × EV) := fun ρ => .ok (none, ρ)
def pI (a : EV → Out (Rv × EV)) : EV → Out (Option Int × EV) := fun ρ => (fzO (a ρ)).bind fun x => match x.1 with
  | .val (.int i) => .ok (some i, x.2)
  | _ => .bad
theorem sp_no : SP' X K cl E none tNoPart pNo := ⟨po_none, fun F H ρ σ Q e p => p F H (.refl e)⟩
theorem sp_some {e : Expr} {te : TE} {me : EV → Out (Rv × EV)} (h : SE X K cl E e te me) : SP' X K cl E (some e) (tPart te) (pI me) := ⟨po_some h.1, fun F H ρ σ Q en p => by
  refine h.2.then en p fun F1 H1 ρ1 r v s hr rr p1 => ?_
  cases r with
  | own d => exact p1.elim
  | ref i => exact p1.elim
  | val d =>
    cases d <;> first | exact p1.elim | skip
    cases (show R _ F1 (.int _) v from rr)
    exact ⟨_, rfl, p1 F1 H1 s⟩⟩
def mSl (a : EV → Out (Rv × EV)) (lo hi : EV → Out (Option Int × EV)) : EV → Out (Rv × EV) := fun ρ => (fzO (a ρ)).bind fun x => (lo x.2).bind fun l => (hi l.2).bind fun h => match rdv h.2 x.1 with
  | some d => giv h.2 (slD d l.1 h.1)
  | none => .bad
theorem MdP.then {t : TO} {m : EV → Out (Option Int × EV)} (ha : MdP G E t m) {F H : Hp} {ρ : EV} {σ : St} {Q : Option Int → Hp → Prop} {β : Type} {okc : β → Prop} {k : Option Int × EV → Out β} (e : EnvR G F H ρ σ) (p : PostG okc (XC G E F H σ ρ) ((m ρ).bind k))
    (h : ∀ F1 H1 ρ1 r, Stp G F H ρ F1 H1 ρ1 σ → PostG okc (XC G E F1 H1 σ ρ1) (k (r, ρ1)) → Q r H1) : t σ H Q := by
  refine ha F H ρ σ Q e ?_
  rw [post_bind] at p
  revert p
  cases m ρ with
  | bad => exact fun p => p
  | ex c f ρ' => exact fun p => p
  | ok x => exact fun p F1 H1 t => h F1 H1 x.2 x.1 t (PostG.imp (show PostG okc (XC G E F H σ ρ) (k x) from p) (fun _ q => q) fun _ _ _ q => q.step t)
theorem se_slice {e : Expr} {lo hi : Option Expr} {te : TE} {tl th : TO} {me : EV → Out (Rv × EV)} {ml mh : EV → Out (Option Int × EV)} {pos p2 : Pos} (C : Cw X K E kk) (ha : SE X K cl E e te me) (hl : SP' X K cl E lo tl ml) (hh : SP' X K cl E hi th mh) : SE X K cl E (.Subscript e (.Slice lo hi none p2) pos) (tSl (rSlice K) te tl th) (mSl me ml mh) :=
  ⟨pe_slice (or_slice C) ha.1 hl.1 hh.1, fun F H ρ σ Q en p => by
    refine ha.2.then en p fun F1 H1 ρ1 r v s hr rr p1 => ?_
    refine hl.2.then s.env p1 fun F2 H2 ρ2 l s2 p2 => ?_
    refine hh.2.then s2.env p2 fun F3 H3 ρ3 h s3 p3 => ?_
    revert p3
    dsimp only
    cases q : rdv ρ3 r with
    | none => exact False.elim
    | some d =>
      intro p3
      exact v_slice s3.env.same (((rr.step s2 hr).step s3 hr).rd s3.env q) (post_giv s3.env (PostG.imp p3 (fun _ z => z.step ((s.trans s2).trans s3) en) fun _ _ _ z => z))⟩
def eqS : D → D → Option Sl
  | .str a, .str b => some (.val (.bool (decide (a = b))))
  | _, _ => none
def neS : D → D → Option Sl
  | .str a, .str b => some (.val (.bool (!decide (a = b))))
  | _, _ => none
theorem v_eqS : Op2 G rEq eqS := fun F H d e x y Q s rx ry h => by
  cases d <;> cases e <;> first | exact h.elim | skip
  rename_i a b
  cases (show x = .str a from rx)
  cases (show y = .str b from ry)
  have e2 : decide (V.str a = V.str b) = decide (a = b) := by rw [Bool.eq_iff_iff]; simp
  exact ⟨rfl, by rw [e2]; exact okS_val s h (.bl _)⟩
theorem v_neS : Op2 G rNe neS := fun F H d e x y Q s rx ry h => by
  cases d <;> cases e <;> first | exact h.elim | skip
  rename_i a b
  cases (show x = .str a from rx)
  cases (show y = .str b from ry)
  have e2 : decide (V.str a = V.str b) = decide (a = b) := by rw [Bool.eq_iff_iff]; simp
  exact ⟨rfl, by rw [e2]; exact okS_val s h (.bl _)⟩
def eqD (d e : D) : Option Sl := (eqS d e).or (eqD0 d e)
def neD (d e : D) : Option Sl := (neS d e).or (neD0 d e)
theorem v_eq : Op2 G (fun x y H Q => rEq x y H Q ∨ rEqD G.K x y H Q) eqD := v_eqS.or v_eq0
theorem v_ne : Op2 G (fun x y H Q => rNe x y H Q ∨ rNeD G.K x y H Q) neD := v_neS.or v_ne0
theorem r_eq (C : Cw X K E kk) : OpR X (compareOp .Eq) (fun x y H Q => rEq x y H Q ∨ rEqD K x y H Q) := C.kq ▸ op_eq.or (op_eqD C.u64)
theorem r_ne (C : Cw X K E kk) : OpR X (compareOp .NotEq) (fun x y H Q => rNe x y H Q ∨ rNeD K x y H Q) := C.kq ▸ op_ne.or (op_neD C.u64)
theorem r_ix (C : Cw X K E kk) : IxR X (rIx K) := C.kq ▸ ix_seq
end
end Fr
namespace Fr
open PySem L2

section
variable {G : Gx} {X : Cx} {K : PySem.W.Frag} {cl : Str → Addr} {E : XK} {kk : Nat} {e o : Expr} {es : List Expr} {pos p : Pos} {te to : TE} {me mo : EV → Out (Rv × EV)} {t : TA} {m : EV → Out (List Rv × EV)} {F H F' H' : Hp} {ρ ρ' : EV} {σ : St}
/-! ### isinstance(e, T) -/
inductive Ty where
  | int | bool | str | list | tuple | dict
def Ty.nm : Ty → String
  | .int => "int"
  | .bool => "bool"
  | .str => "str"
  | .list => "list"
  | .tuple => "tuple"
  | .dict => "dict"
def isObj : D → Bool
  | .dict ((.none, _) :: _) => true
  | _ => false
def isiB : Ty → D → Bool
  | .int, .int _ => true
  | .int, .bool _ => true
  | .bool, .bool _ => true
  | .str, .str _ => true
  | .list, .list _ => true
  | .tuple, .tuple _ => true
  | .dict, .dict _ => true
  | _, _ => false
def tagD : D → String
  | .none => "NoneType"
  | .bool _ => "bool"
  | .int _ => "int"
  | .str _ => "str"
  | .list _ => "list"
  | .tuple _ => "tuple"
  | .dict _ => "dict"
theorem Rd.ty {d : D} {v : V} (s : Same F H) (h : Rd G F H d v) (ho : isObj d = false) : TyX G.K H v (.type (tagD d)) := by
  cases d with
  | none => cases h; exact .base .non
  | bool b => cases h; exact .base (.bl _)
  | int b => cases h; exact .base (.int _)
  | str b => cases h; exact .base (.str _)
  | list ds => obtain ⟨a, xs, rfl, q, _⟩ := h; exact .base (.lst q)
  | tuple ds =>
    obtain ⟨a, xs, rfl, q, _⟩ := h
    rcases sqT_same s q with (q | ⟨ob, q⟩) | ⟨ob, its, n, q, c, _⟩
    · exact .base (.tup q)
    · exact .fTuple q
    · exact .kTuple q c
  | dict es =>
    obtain ⟨a, rfl, q⟩ := h
    rcases q with ⟨kvs, q, _⟩ | ⟨kvs, q, _⟩ | ⟨c, es', dx, fs, rfl, q, _⟩ | ⟨ns, rfl, q⟩
    · exact .base (.dK q)
    · exact .base (.dT q)
    · cases ho
    · cases ho
theorem kit_all (T : Ty) (d : D) : kitB (tagD d) T.nm = some (isiB T d) := by
  cases T <;> cases d <;> dsimp only [tagD, isiB, Ty.nm] <;> decide +kernel
def mIsi (T : Ty) (a : EV → Out (Rv × EV)) : EV → Out (Rv × EV) := m1 (fun d => if isObj d = true then none else some (.val (.bool (isiB T d)))) a
theorem se_isi (T : Ty) {x : Str} {q1 q2 : Pos} (C : Cw X K E kk) (h : SE X K cl E e te me) (hm : X.mg "isinstance" = none) (hx : X.mg x = none) (hv : bootBuiltins x = some (.type T.nm) := by decide +kernel) (hb : bootBuiltins "isinstance" = some (.builtin "isinstance") := by decide +kernel) (hg : Gl X "isinstance" := by rfl) (hgx : Gl X x := by rfl) (hn : x ≠ "__name__" := by decide)
    (hdx : (x == ("__debug__" : Str)) = false := by decide) (h1 : starEach [e, .Name x q2] X.env = (false, eval e X.env) :: starEach [.Name x q2] X.env := by rfl) (h2 : starEach [.Name x q2] X.env = (false, eval (.Name x q2) X.env) :: starEach [] X.env := by rfl) (hpl : (backTo pos (starEach [.Name x q2] X.env)).any (·.1) = false := by rfl) :
    SE X K cl E (.Call (.Name "isinstance" q1) [e, .Name x q2] [] pos) (tCB (rIsi K) (tCons te (tCons (tC (.ty T.nm)) tNil))) (mIsi T me) :=
  ⟨pe_callB (C.kq ▸ call_isi) hg hm hb (pa_cons h.1 (pa_cons (pe_bltn hgx hx hv rfl hn hdx) pa_nil h2) h1) (by decide) (by decide) h1 hpl, fun F H ρ σ Q en pp => by
    unfold mIsi m1 at pp
    refine h.2.then en pp fun F1 H1 ρ1 r v s hr rr p1 => ?_
    revert p1
    dsimp only
    cases q : rdv ρ1 r with
    | none => exact False.elim
    | some d =>
      dsimp only
      intro p1
      by_cases ho : isObj d = true
      · rw [if_pos ho] at p1; exact p1.elim
      · rw [if_neg ho] at p1
        have ho : isObj d = false := by simpa using ho
        exact ⟨v, .ty T.nm, _, _, isiB T d, rfl, .ty _, (rr.rd s.env q).ty s.env.same ho, kit_ty (kit_all T d), (p1.step s en) F1 H1 _ (.refl s.env) (.bl _)⟩⟩

/-! ### built-ins called by name -/
def one (g : D → Option Sl) : List D → Option Sl
  | [d] => g d
  | _ => none
def two (g : D → D → Option Sl) : List D → Option Sl
  | [d, e] => g d e
  | _ => none
theorem v_one {r : List V → Hp → VK → Prop} {g : D → Option Sl} (h : ∀ F H d x Q, Same F H → Rd G F H d x → okS G F H Q (g d) → r [x] H Q) : OpN G r (one g) := fun F H ds xs Q s rr q => by
  cases rr with
  | nil => exact q.elim
  | cons r1 r2 => cases r2 with
    | nil => exact h F H _ _ Q s r1 q
    | cons _ _ => exact q.elim
theorem v_two {r : List V → Hp → VK → Prop} {g : D → D → Option Sl} (h : ∀ F H d e x y Q, Same F H → Rd G F H d x → Rd G F H e y → okS G F H Q (g d e) → r [x, y] H Q) : OpN G r (two g) := fun F H ds xs Q s rr q => by
  cases rr with
  | nil => exact q.elim
  | cons r1 r2 => cases r2 with
    | nil => exact q.elim
    | cons r2 r3 => cases r3 with
      | nil => exact h F H _ _ _ _ Q s r1 r2 q
      | cons _ _ => exact q.elim
def lenD1 : D → Option Sl
  | .str z => if z.length ≤ sizeLine then some (.val (.int z.length)) else none
  | .list xs => some (.val (.int xs.length))
  | .tuple xs => some (.val (.int xs.length))
  | _ => none
def lenD : List D → Option Sl := one lenD1
theorem v_len : OpN G (fun xs H Q => ∃ x n, xs = [x] ∧ LenV G.K x H n ∧ Q (.int n) H) lenD := v_one fun F H d x Q s rx h => by
  cases d with
  | str z =>
    cases (show _ = V.str z from rx)
    simp only [lenD1] at h
    by_cases hz : z.length ≤ sizeLine
    · rw [if_pos hz] at h; exact ⟨_, z.length, rfl, ⟨hz, rfl⟩, okS_val s h (.int _)⟩
    · rw [if_neg hz] at h; exact h.elim
  | list ds =>
    obtain ⟨a, ys, rfl, q, r1⟩ := rx
    exact ⟨_, ds.length, rfl, .inl ⟨ys, .of q, r1.length.symm⟩, okS_val s h (.int _)⟩
  | tuple ds =>
    obtain ⟨a, ys, rfl, q, r1⟩ := rx
    exact ⟨_, ds.length, rfl, .inr ⟨ys, sqT_same s q, r1.length.symm⟩, okS_val s h (.int _)⟩
  | _ => exact h.elim
def bools : List D → Option (List Bool)
  | [] => some []
  | .bool b :: r => (bools r).map (b :: ·)
  | _ :: _ => none
theorem bools_rs {ds : List D} {vs : List V} (r : Rs G F ds vs) : ∀ bs, bools ds = some bs → vs = bs.map V.bl := by
  induction ds generalizing vs with
  | nil => intro bs q; cases r; simp [bools] at q; subst q; rfl
  | cons d ds ih =>
    intro bs q
    cases r with
    | cons r1 r2 =>
      cases d <;> first | (simp [bools] at q; done) | skip
      cases r1
      simp only [bools] at q
      cases z : bools ds with
      | none => rw [z] at q; cases q
      | some bs' =>
        rw [z] at q
        simp only [Option.map_some] at q
        injection q with q
        subst q
        rw [ih r2 bs' z]; rfl
def allD1 : D → Option Sl
  | .list ds => (bools ds).map fun bs => .val (.bool (bs.all id))
  | _ => none
def anyD1 : D → Option Sl
  | .list ds => (bools ds).map fun bs => .val (.bool (bs.any id))
  | _ => none
def allD : List D → Option Sl := one allD1
def anyD : List D → Option Sl := one anyD1
theorem v_all : OpN G (rAll G.K) allD := v_one fun F H d x Q s rx h => by
  cases d with
  | list ds =>
    obtain ⟨a, ys, rfl, q, r1⟩ := rx
    simp only [allD1] at h
    cases z : bools ds with
    | none => rw [z] at h; exact h.elim
    | some bs => rw [z] at h; exact ⟨a, bs, rfl, by rw [← bools_rs r1 bs z]; exact .of q, okS_val s h (.bl _)⟩
  | _ => exact h.elim
theorem v_any : OpN G (rAny G.K) anyD := v_one fun F H d x Q s rx h => by
  cases d with
  | list ds =>
    obtain ⟨a, ys, rfl, q, r1⟩ := rx
    simp only [anyD1] at h
    cases z : bools ds with
    | none => rw [z] at h; exact h.elim
    | some bs => rw [z] at h; exact ⟨a, bs, rfl, by rw [← bools_rs r1 bs z]; exact .of q, okS_val s h (.bl _)⟩
  | _ => exact h.elim
def intsD : List D → Option (List Int)
  | [] => some []
  | .int b :: r => (intsD r).map (b :: ·)
  | _ :: _ => none
theorem ints_rs {ds : List D} {vs : List V} (r : Rs G F ds vs) : ∀ bs, intsD ds = some bs → vs = bs.map V.int := by
  induction ds generalizing vs with
  | nil => intro bs q; cases r; simp [intsD] at q; subst q; rfl
  | cons d ds ih =>
    intro bs q
    cases r with
    | cons r1 r2 =>
      cases d <;> first | (simp [intsD] at q; done) | skip
      cases r1
      simp only [intsD] at q
      cases z : intsD ds with
      | none => rw [z] at q; cases q
      | some bs' =>
        rw [z] at q
        simp only [Option.map_some] at q
        injection q with q
        subst q
        rw [ih r2 bs' z]; rfl
def strsD : List D → Option (List Str)
  | [] => some []
  | .str b :: r => (strsD r).map (b :: ·)
  | _ :: _ => none
theorem strs_rs {ds : List D} {vs : List V} (r : Rs G F ds vs) : ∀ bs, strsD ds = some bs → vs = bs.map V.str := by
  induction ds generalizing vs with
  | nil => intro bs q; cases r; simp [strsD] at q; subst q; rfl
  | cons d ds ih =>
    intro bs q
    cases r with
    | cons r1 r2 =>
      cases d <;> first | (simp [strsD] at q; done) | skip
      cases r1
      simp only [strsD] at q
      cases z : strsD ds with
      | none => rw [z] at q; cases q
      | some bs' =>
        rw [z] at q
        simp only [Option.map_some] at q
        injection q with q
        subst q
        rw [ih r2 bs' z]; rfl
def sumD1 : D → Option Sl
  | .list ds => (intsD ds).map fun ns => .val (.int ns.sum)
  | _ => none
def sumD : List D → Option Sl := one sumD1
theorem v_sum : OpN G (rSum G.K) sumD := v_one fun F H d x Q s rx h => by
  cases d with
  | list ds =>
    obtain ⟨a, ys, rfl, q, r1⟩ := rx
    simp only [sumD1] at h
    cases z : intsD ds with
    | none => rw [z] at h; exact h.elim
    | some bs => rw [z] at h; exact ⟨a, bs, rfl, by rw [← ints_rs r1 bs z]; exact .of q, okS_val s h (.int _)⟩
  | _ => exact h.elim
def tupleD1 : D → Option Sl
  | .list ds => some (.val (.tuple ds))
  | .tuple ds => some (.val (.tuple ds))
  | _ => none
def listD1 : D → Option Sl
  | .list ds => some (.own (.list ds))
  | .tuple ds => some (.own (.list ds))
  | _ => none
def tupleD : List D → Option Sl := one tupleD1
def listD : List D → Option Sl := one listD1
theorem v_tuple : OpN G (fun xs H Q => ∃ p ys, xs = [.ref p] ∧ ((SqL G.K H p ys ∧ ∀ l, H l = none → Q (.ref l) (upd H l (.tup ys))) ∨ (SqT G.K H p ys ∧ Q (.ref p) H))) tupleD := v_one fun F H d x Q s rx h => by
  cases d with
  | list ds =>
    obtain ⟨a, ys, rfl, q, r1⟩ := rx
    exact ⟨a, ys, rfl, .inl ⟨.of q, fun l n => okS_tup s h r1 n⟩⟩
  | tuple ds =>
    obtain ⟨a, ys, rfl, q, r1⟩ := rx
    exact ⟨a, ys, rfl, .inr ⟨sqT_same s q, okS_val s h (.tup q r1)⟩⟩
  | _ => exact h.elim
theorem v_list : OpN G (fun xs H Q => ∃ p ys, xs = [.ref p] ∧ (SqL G.K H p ys ∨ SqT G.K H p ys) ∧ ∀ l, H l = none → Q (.ref l) (upd H l (.lst ys))) listD := v_one fun F H d x Q s rx h => by
  cases d with
  | list ds =>
    obtain ⟨a, ys, rfl, q, r1⟩ := rx
    exact ⟨a, ys, rfl, .inl (.of q), fun l n => okS_list s h r1 n⟩
  | tuple ds =>
    obtain ⟨a, ys, rfl, q, r1⟩ := rx
    exact ⟨a, ys, rfl, .inr (sqT_same s q), fun l n => okS_list s h r1 n⟩
  | _ => exact h.elim
def intD1 : D → Option Sl
  | .int i => some (.val (.int i))
  | .bool b => some (.val (.int (if b then 1 else 0)))
  | .str z => match PySem.intText? z with
    | some n => if z.length ≤ 640 then some (.val (.int n)) else none
    | none => none
  | _ => none
def intD : List D → Option Sl := one intD1
theorem or_int : CallR X (.type "int") (fun xs H Q => ((∃ i, xs = [.int i] ∧ Q (.int i) H) ∨ ∃ k, xs = [.bl k] ∧ Q (.int (if k then 1 else 0)) H) ∨ ∃ a n, xs = [.str a] ∧ PySem.intText? a = some n ∧ a.length ≤ 640 ∧ Q (.int n) H) := call_int1.or call_int_str
theorem v_int : OpN G (fun xs H Q => ((∃ i, xs = [.int i] ∧ Q (.int i) H) ∨ ∃ k, xs = [.bl k] ∧ Q (.int (if k then 1 else 0)) H) ∨ ∃ a n, xs = [.str a] ∧ PySem.intText? a = some n ∧ a.length ≤ 640 ∧ Q (.int n) H) intD := v_one fun F H d x Q s rx h => by
  cases d with
  | int i => cases (show _ = V.int i from rx); exact .inl (.inl ⟨i, rfl, okS_val s h (.int _)⟩)
  | bool b => cases (show _ = V.bl b from rx); exact .inl (.inr ⟨b, rfl, okS_val s h (.int _)⟩)
  | str z =>
    cases (show _ = V.str z from rx)
    simp only [intD1] at h
    cases q : PySem.intText? z with
    | none => rw [q] at h; exact h.elim
    | some n =>
      rw [q] at h
      dsimp only at h
      by_cases hz : z.length ≤ 640
      · rw [if_pos hz] at h; exact .inr ⟨z, n, rfl, q, hz, okS_val s h (.int _)⟩
      · rw [if_neg hz] at h; exact h.elim
  | _ => exact h.elim
def absD1 : D → Option Sl
  | .int i => some (.val (.int (if i < 0 then -i else i)))
  | _ => none
def absD : List D → Option Sl := one absD1
theorem v_abs : OpN G (fun xs H Q => ∃ i, xs = [.int i] ∧ Q (.int (if i < 0 then -i else i)) H) absD := v_one fun F H d x Q s rx h => by
  cases d with
  | int i => cases (show _ = V.int i from rx); exact ⟨i, rfl, okS_val s h (.int _)⟩
  | _ => exact h.elim
def maxD1 : D → D → Option Sl
  | .int i, .int j => some (.val (.int (if j > i then j else i)))
  | _, _ => none
def maxD : List D → Option Sl := two maxD1
theorem v_max : OpN G (fun xs H Q => ∃ i j, xs = [.int i, .int j] ∧ Q (.int (if j > i then j else i)) H) maxD := v_two fun F H d e x y Q s rx ry h => by
  cases d <;> cases e <;> first | exact h.elim | skip
  rename_i i j
  cases (show _ = V.int i from rx)
  cases (show _ = V.int j from ry)
  exact ⟨i, j, rfl, okS_val s h (.int _)⟩

/-! ### repr -/
def reprD1 : D → Option Sl := fun d => if (d.canLay0 && d.showable && decide (d.depth ≤ 64) && decide (d.shown.length ≤ sizeLine)) = true then some (.val (.str d.shown)) else none
def rRepr (K : PySem.W.Frag) : List V → Hp → VK → Prop := fun xs H Q => ∃ x d, xs = [x] ∧ Dp K H x d ∧ d.canLay0 = true ∧ d.showable = true ∧ d.depth ≤ 64 ∧ d.shown.length ≤ sizeLine ∧ Q (.str d.shown) H
def reprD : List D → Option Sl := one reprD1
theorem call_repr (C : Cw X K E kk) : CallR X (.builtin "repr") (rRepr K) := by
  obtain ⟨kq, room, gd, calm, pass⟩ := C
  subst kq
  intro pins s σ H xs us Q I r h
  obtain ⟨x, d, rfl, hd, hc, hs, hdp, hl, q⟩ := h
  obtain ⟨u, rfl, rx⟩ := vals1 r
  obtain ⟨as, rd⟩ := Dp.reads I d x u hd rx
  have hu := room.un
  have fin : ∀ h' k tk, (∀ b o, s.heap.get? b = some o → h'.get? b = some o) → EP X pins σ Q (.str d.shown k) { s with heap := h', toks := tk } := fun h' k tk kp => ⟨.str _, H, I.kept kp, ⟨k, rfl⟩, q⟩
  cases hd with
  | non => cases rx; exact PySem.P.repr_of_none (fin _ _ _ fun _ _ e => e)
  | bl b => cases rx; exact PySem.P.repr_of_bool (fin _ _ _ fun _ _ e => e)
  | int i => obtain ⟨t, rfl⟩ := rx; exact PySem.P.repr_of_int (by simpa [PyData.showable] using hs) (fin _ _ _ fun _ _ e => e)
  | str z => obtain ⟨t, rfl⟩ := rx; exact PySem.P.repr_of_str (fin _ _ _ fun _ _ e => e) (by simpa only [PyData.shown] using hl)
  | lst a b =>
    cases rx
    exact PySem.repr_of_reads' rd hs (PyData.noDict_hsm (PyData.hasDict_of_canLay _ hc)) gd (by omega) (fun _ _ e => e) (fun h' k tk kp => fin h' k tk kp) hl
  | tup a b =>
    cases rx
    exact PySem.repr_of_reads' rd hs (PyData.noDict_hsm (PyData.hasDict_of_canLay _ hc)) gd (by omega) (fun _ _ e => e) (fun h' k tk kp => fin h' k tk kp) hl
theorem v_repr : OpN G (rRepr G.K) reprD := v_one fun F H d x Q s rx h => by
    simp only [reprD1] at h
    by_cases q : (d.canLay0 && d.showable && decide (d.depth ≤ 64) && decide (d.shown.length ≤ sizeLine)) = true
    · rw [if_pos q] at h
      simp only [Bool.and_eq_true, decide_eq_true_eq] at q
      exact ⟨_, d, rfl, rx.dp s q.1.1.1, q.1.1.1, q.1.1.2, q.1.2, q.2, okS_val s h (.str _)⟩
    · rw [if_neg q] at h; exact h.elim
theorem r_len (C : Cw X K E kk) : CallR X (.builtin "len") (fun xs H Q => ∃ x n, xs = [x] ∧ LenV K x H n ∧ Q (.int n) H) := C.kq ▸ call_len
theorem r_all (C : Cw X K E kk) : CallR X (.builtin "all") (rAll K) := C.kq ▸ cr_all C.calm
theorem r_any (C : Cw X K E kk) : CallR X (.builtin "any") (rAny K) := C.kq ▸ cr_any C.calm
theorem r_sum (C : Cw X K E kk) : CallR X (.builtin "sum") (rSum K) := C.kq ▸ cr_sum C.calm
theorem r_tuple (C : Cw X K E kk) : CallR X (.type "tuple") (fun xs H Q => ∃ p ys, xs = [.ref p] ∧ ((SqL K H p ys ∧ ∀ l, H l = none → Q (.ref l) (upd H l (.tup ys))) ∨ (SqT K H p ys ∧ Q (.ref p) H))) := C.kq ▸ call_tuple_of
theorem r_list (C : Cw X K E kk) : CallR X (.type "list") (fun xs H Q => ∃ p ys, xs = [.ref p] ∧ (SqL K H p ys ∨ SqT K H p ys) ∧ ∀ l, H l = none → Q (.ref l) (upd H l (.lst ys))) := C.kq ▸ call_list_of
end
end Fr
namespace Fr
open PySem L2

section
variable {G : Gx} {X : Cx} {K : PySem.W.Frag} {cl : Str → Addr} {E : XK} {kk : Nat} {e o b : Expr} {es : List Expr} {pos p apos : Pos} {te to tb : TE} {me mo mb : EV → Out (Rv × EV)} {t : TA} {m : EV → Out (List Rv × EV)} {F H F' H' : Hp} {ρ ρ' : EV} {σ : St} {np : Nat}
/-! ### methods of built-in types that change nothing -/
def tyB (T : String) : D → Bool
  | .str _ => T == "str"
  | .int _ => T == "int"
  | .list _ => T == "list"
  | .dict ((.none, _) :: _) => false
  | .dict _ => T == "dict"
  | _ => false
theorem Rd.tyV {T : String} {d : D} {v : V} (h : Rd G F H d v) (q : tyB T d = true) : L2.tyV G.K T v H := by
  cases d with
  | none => cases q
  | bool b => cases q
  | int i => cases (show v = .int i from h); exact eq_of_beq q
  | str z => cases (show v = .str z from h); exact eq_of_beq q
  | list ds => obtain ⟨a, xs, rfl, k, _⟩ := h; exact .inl ⟨eq_of_beq q, xs, .of k⟩
  | tuple ds => cases q
  | dict es =>
    obtain ⟨a, rfl, k⟩ := h
    rcases k with ⟨kvs, k, r⟩ | ⟨kvs, k, r⟩ | ⟨c, es', dx, fs, rfl, k, r⟩ | ⟨ns, rfl, k⟩
    · refine .inr (.inr (.inl ⟨?_, .inl ⟨kvs, k⟩⟩))
      cases r with
      | nil => exact eq_of_beq q
      | @cons k' d' v' es' vs' r1 r2 => cases k' <;> exact eq_of_beq q
    · refine .inr (.inr (.inl ⟨?_, .inr ⟨kvs, k⟩⟩))
      cases r with
      | nil => exact eq_of_beq q
      | cons _ _ => exact eq_of_beq q
    · cases q
    · cases q
def mM (T : String) (f : D → List D → Option Sl) (o : EV → Out (Rv × EV)) (as : EV → Out (List Rv × EV)) : EV → Out (Rv × EV) := fun ρ => (fzO (o ρ)).bind fun x => match rdv x.2 x.1 with
  | some d0 => if tyB T d0 = true then (as x.2).bind fun y => match rdv y.2 x.1, rdvs y.2 y.1 with
      | some d, some ds => giv y.2 (f d ds)
      | _, _ => .bad
    else .bad
  | none => .bad
def OpM (G : Gx) (r : V → List V → Hp → VK → Prop) (f : D → List D → Option Sl) : Prop := ∀ F H d ds x xs Q, Same F H → Rd G F H d x → Rds G F H ds xs → okS G F H Q (f d ds) → r x xs H Q
theorem md_M {T : String} {r : V → List V → Hp → VK → Prop} {f : D → List D → Option Sl} (ho : OpM G r f) (ha : Md G E to mo) (hb : MdA G E t m) : Md G E (tBM G.K T r to t) (mM T f mo m) := fun F H ρ σ Q en pp => by
  unfold mM at pp
  refine ha.then en pp fun F1 H1 ρ1 x v s hx rx p1 => ?_
  revert p1
  dsimp only
  cases q0 : rdv ρ1 x with
  | none => exact False.elim
  | some d0 =>
    dsimp only
    by_cases hT : tyB T d0 = true
    · rw [if_pos hT]
      intro p1
      refine ⟨(rx.rd s.env q0).tyV hT, ?_⟩
      refine hb.then s.env p1 fun F2 H2 ρ2 rs vs s2 rr p2 => ?_
      revert p2
      dsimp only
      cases q1 : rdv ρ2 x with
      | none => exact False.elim
      | some d =>
        cases q2 : rdvs ρ2 rs with
        | none => exact False.elim
        | some ds => exact fun p2 => ho F2 H2 d ds v vs Q s2.env.same ((rx.step s2 hx).rd s2.env q1) (rr.rd s2.env ds q2) (post_giv s2.env (PostG.imp p2 (fun _ q => q.step (s.trans s2) en) fun _ _ _ q => q))
    · rw [if_neg hT]; exact False.elim
theorem se_m {T id : String} {name : Str} {r : V → List V → Hp → VK → Prop} {f : D → List D → Option Sl} (C : Cw X K E kk) (pa : PlainAttrs T) (slot : Slot T name id) (hty : typeOf (.builtin id) = pure (.type "method_descriptor")) (hm : MtR X id r) (hf : OpM ⟨K, cl⟩ r f) (ho : SE X K cl E o to mo) (ha : SA X K cl E (e :: es) t m)
    (hbase : attributeBase o name X.env (eval o X.env) = eval o X.env := by rfl)
    (hfew : ((backTo pos (starEach (e :: es) X.env)).all (fun x => !x.1) && (backToKw pos (keywordEach [] X.env)).all (fun x => x.1.isSome) && decide ((e :: es).length + ([] : List Keyword).length + (if ([] : List Keyword).isEmpty then 0 else 1) < 30)) = true := by rfl)
    (hline : (apos.endLine == pos.line) = true := by rfl) (hs : starEach (e :: es) X.env = (false, eval e X.env) :: starEach es X.env := by rfl) (hplain : (backTo pos (starEach es X.env)).any (·.1) = false := by rfl) :
    SE X K cl E (.Call (.Attribute o name apos) (e :: es) [] pos) (tBM K T r to t) (mM T f mo m) := ⟨C.kq ▸ pe_bm pa slot hty hm ho.1 ha.1 hbase hfew hline hs hplain, md_M hf ho.2 ha.2⟩
theorem se_m0 {T id : String} {name : Str} {r : V → List V → Hp → VK → Prop} {f : D → List D → Option Sl} (C : Cw X K E kk) (pa : PlainAttrs T) (slot : Slot T name id) (hty : typeOf (.builtin id) = pure (.type "method_descriptor")) (hm : MtR X id r) (hf : OpM ⟨K, cl⟩ r f) (ho : SE X K cl E o to mo)
    (hbase : attributeBase o name X.env (eval o X.env) = eval o X.env := by rfl) (hline : (apos.endLine == pos.line) = true := by rfl) : SE X K cl E (.Call (.Attribute o name apos) [] [] pos) (tBM0 K T r to) (mM T f mo aNil) :=
  ⟨C.kq ▸ pe_bm0 pa slot hty hm ho.1 hbase hline, fun F H ρ σ Q en pp => (md_M (T := T) hf ho.2 (t := tNil) (m := aNil) fun F H ρ σ Q e p => p F H [] (.refl e) .nil) F H ρ σ Q en pp⟩
def strB (g : Str → Bool) : D → List D → Option Sl
  | .str a, [] => some (.val (.bool (g a)))
  | _, _ => none
theorem v_strB {g : Str → Bool} : OpM G (fun x xs H Q => ∃ a, x = .str a ∧ xs = [] ∧ True ∧ Q (.bl (g a)) H) (strB g) := fun F H d ds x xs Q s rx rs h => by
  cases d <;> first | exact h.elim | skip
  rename_i a
  cases rs with
  | nil => exact ⟨a, rx, rfl, trivial, okS_val s h (.bl _)⟩
  | cons _ _ => exact h.elim
theorem Rds.one {ds : List D} {xs : List V} (r : Rds G F H ds xs) {d : D} (e : ds = [d]) : ∃ x, xs = [x] ∧ Rd G F H d x := by
  subst e
  cases r with
  | cons r1 r2 => cases r2; exact ⟨_, rfl, r1⟩
def joinD : D → List D → Option Sl
  | .str a, [.list ds] => match strsD ds with
    | some ys => if (ys.map (·.length)).sum + ys.length * a.length ≤ 16777216 then some (.val (.str (Txt.join a ys))) else none
    | none => none
  | _, _ => none
theorem v_join : OpM G (fun x xs H Q => ∃ a p, ∃ ys : List Str, x = .str a ∧ xs = [.ref p] ∧ (SqL G.K H p (ys.map V.str) ∨ SqT G.K H p (ys.map V.str)) ∧ (ys.map (·.length)).sum + ys.length * a.length ≤ 16777216 ∧ Q (.str (Txt.join a ys)) H) joinD := fun F H d ds x xs Q s rx rs h => by
  cases d <;> first | exact h.elim | skip
  rename_i a
  unfold joinD at h
  split at h
  · rename_i a' ds' e1
    injection e1 with e1
    subst e1
    obtain ⟨x1, rfl, q, ys, rfl, k1, k2⟩ := Rds.one rs rfl
    cases z : strsD ds' with
    | none => rw [z] at h; exact h.elim
    | some zs =>
      rw [z] at h
      dsimp only at h
      by_cases c : (zs.map (·.length)).sum + zs.length * a.length ≤ 16777216
      · rw [if_pos c] at h; exact ⟨a, q, zs, rx, rfl, .inl (by rw [← strs_rs k2 zs z]; exact .of k1), c, okS_val s h (.str _)⟩
      · rw [if_neg c] at h; exact h.elim
  · exact h.elim
def splitD : D → List D → Option Sl
  | .str a, [.str b] => if (b.length == 0) = false ∧ a.length + 2 ≤ sizeLine then some (.own (.list ((Txt.split a b).map .str))) else none
  | _, _ => none
theorem rs_strs (ys : List Str) : Rs G F (ys.map .str) (ys.map V.str) := by
  induction ys with
  | nil => exact .nil
  | cons y ys ih => exact .cons (.str y) ih
theorem v_split : OpM G (fun x xs H Q => ∃ a b, x = .str a ∧ xs = [.str b] ∧ (b.length == 0) = false ∧ a.length + 2 ≤ sizeLine ∧ rNewStrs (Txt.split a b) H Q) splitD := fun F H d ds x xs Q s rx rs h => by
  cases d <;> first | exact h.elim | skip
  rename_i a
  unfold splitD at h
  split at h
  · rename_i a' b e1
    injection e1 with e1
    subst e1
    obtain ⟨x1, rfl, q⟩ := Rds.one rs rfl
    by_cases c : (b.length == 0) = false ∧ a.length + 2 ≤ sizeLine
    · rw [if_pos c] at h; exact ⟨a, b, rx, by rw [show x1 = V.str b from q], c.1, c.2, fun p n => okS_list s h (rs_strs _) n⟩
    · rw [if_neg c] at h; exact h.elim
  · exact h.elim

/-! ### what changes an owned thing -/
/-- slot i holds d, then d' -/
theorem Stp.mut {i : Nat} {d d' : D} {a : Addr} {o' : HO} (en : EnvR G F H ρ σ) (h1 : ρ[i]? = some (some (Sl.own d))) (h2 : σ[i]? = some (some (V.ref a))) (h3 : OwnR G F (upd H a o') d' a) : Stp G F H ρ F (upd H a o') (ρ.set i (some (.own d'))) σ := by
  have fa : F a = Option.none := en.free (i := i) ⟨⟨d, h1⟩, h2⟩
  have hi : i < ρ.length := (List.getElem?_eq_some_iff.mp h1).1
  have get : ∀ j : Nat, (ρ.set i (some (Sl.own d')))[j]? = if i = j then some (some (Sl.own d')) else ρ[j]? := fun j => by
    rw [get_set]
    by_cases z : i = j
    · rw [if_pos z, if_pos z, if_pos hi]
    · rw [if_neg z, if_neg z]
  have mode : ∀ j : Nat, (∃ x x' : D, ρ[j]? = some (some (Sl.own x)) ∧ (ρ.set i (some (Sl.own d')))[j]? = some (some (Sl.own x'))) ∨ ((∀ x : D, ρ[j]? ≠ some (some (Sl.own x))) ∧ (ρ.set i (some (Sl.own d')))[j]? = ρ[j]?) := by
    intro j
    rw [get]
    by_cases z : i = j
    · subst z; rw [if_pos rfl]; exact .inl ⟨d, d', h1, rfl⟩
    · rw [if_neg z]
      cases y : ρ[j]? with
      | none => exact .inr ⟨by simp, rfl⟩
      | some x => cases x with
        | none => exact .inr ⟨by simp, rfl⟩
        | some x => cases x with
          | val d => exact .inr ⟨by simp, rfl⟩
          | own d => exact .inl ⟨d, d, rfl, rfl⟩
  have ow : ∀ (j : Nat) (b : Addr), Ow (ρ.set i (some (Sl.own d'))) σ j b → Ow ρ σ j b := by
    rintro j b ⟨⟨x, q1⟩, q2⟩
    rcases mode j with ⟨y, y', k1, k2⟩ | ⟨k1, k2⟩
    · exact ⟨⟨y, k1⟩, q2⟩
    · exact ⟨⟨x, k2 ▸ q1⟩, q2⟩
  refine ⟨.refl _, ⟨fun b x q => by rw [upd_ne (ne_of_none q fa)]; exact en.same b x q, by simp [en.len], ?_, ?_, fun j k b w1 w2 => en.ne j k b (ow j b w1) (ow k b w2)⟩, fun _ _ h => .inl h, fun b x q w => ?_, mode⟩
  · intro j x q
    rw [get] at q
    by_cases z : i = j
    · rw [if_pos z] at q; injection q with q; cases q
    · rw [if_neg z] at q; exact en.val j x q
  · intro j x q
    rw [get] at q
    by_cases z : i = j
    · subst z
      rw [if_pos rfl] at q
      injection q with q; injection q with q; injection q with q
      subst q
      exact ⟨a, h2, fa, h3⟩
    · rw [if_neg z] at q
      obtain ⟨b', k1, k2, k3⟩ := en.own j x q
      have n : b' ≠ a := fun y => z (en.ne i j a ⟨⟨d, h1⟩, h2⟩ ⟨⟨x, q⟩, y ▸ k1⟩)
      exact ⟨b', k1, k2, k3.at (upd_ne n)⟩
  · rw [upd_ne (show b ≠ a from fun y => w i ⟨⟨d, h1⟩, by rw [y]; exact h2⟩)]; exact q
/-- a method that changes what slot i owns; its arguments are frozen data -/
def mMut (T : String) (i : Nat) (f : D → List D → Option (D × D)) (as : EV → Out (List Rv × EV)) : EV → Out (Rv × EV) := fun ρ => match ρ[i]? with
  | some (some (.own d0)) => if tyB T d0 = true then (as ρ).bind fun y => match y.2[i]?, mTup.vals y.1 with
      | some (some (.own d)), some ds => match f d ds with
        | some (d', r) => .ok (.val r, y.2.set i (some (.own d')))
        | none => .bad
      | _, _ => .bad
    else .bad
  | _ => .bad
def OpU (G : Gx) (r : V → List V → Hp → VK → Prop) (f : D → List D → Option (D × D)) : Prop := ∀ F H d ds a xs Q d' x, Same F H → OwnR G F H d a → Rs G F ds xs → f d ds = some (d', x) → (∀ o' v, OwnR G F (upd H a o') d' a → R G F x v → Q v (upd H a o')) → r (.ref a) xs H Q
theorem md_mut {T : String} {i : Nat} {r : V → List V → Hp → VK → Prop} {f : D → List D → Option (D × D)} (ho : OpU G r f) (hb : MdA G E t m) : Md G E (tBM G.K T r (tVar i) t) (mMut T i f m) := fun F H ρ σ Q en pp => by
  unfold mMut at pp
  split at pp
  · rename_i d0 q0
    obtain ⟨a, h1, h2, h3⟩ := en.own i d0 q0
    refine ⟨.ref a, h1, ?_⟩
    by_cases hT : tyB T d0 = true
    · rw [if_pos hT] at pp
      refine ⟨(OwnR.rd h3).tyV hT, ?_⟩
      refine hb.then en pp fun F2 H2 ρ2 rs vs s2 rr p2 => ?_
      dsimp only at p2
      split at p2
      · rename_i d ds e1 e2
        obtain ⟨a', k1, k2, k3⟩ := s2.env.own i d e1
        rw [h1] at k1
        injection k1 with k1; injection k1 with k1; injection k1 with k1
        subst k1
        cases z : f d ds with
        | none => rw [z] at p2; exact p2.elim
        | some y =>
          obtain ⟨d', x⟩ := y
          rw [z] at p2
          exact ho F2 H2 d ds a vs Q d' x s2.env.same k3 (rr.vals ds e2) z fun o' v w1 w2 => p2 F2 _ v (s2.trans (Stp.mut s2.env e1 h1 w1)) w2
      · exact p2.elim
    · rw [if_neg hT] at pp; exact pp.elim
  · exact pp.elim
theorem se_mut (i : Nat) {T id : String} {name x : Str} {px : Pos} {r : V → List V → Hp → VK → Prop} {f : D → List D → Option (D × D)} (C : Cw X K E kk) (pa : PlainAttrs T) (slot : Slot T name id) (hty : typeOf (.builtin id) = pure (.type "method_descriptor")) (hm : MtR X id r) (hf : OpU ⟨K, cl⟩ r f) (ha : SA X K cl E (e :: es) t m)
    (hN : X.N[i]? = some x := by rfl) (hv : Vis X.env.scope x := by first | exact Or.inl rfl | exact Or.inr (Or.inl rfl) | exact Or.inr (Or.inr rfl)) (hd : (x == ("__debug__" : Str)) = false := by decide) (hcd : (x == ("__classdict__" : Str)) = false := by decide)
    (hbase : attributeBase (.Name x px) name X.env (eval (.Name x px) X.env) = eval (.Name x px) X.env := by rfl)
    (hfew : ((backTo pos (starEach (e :: es) X.env)).all (fun x => !x.1) && (backToKw pos (keywordEach [] X.env)).all (fun x => x.1.isSome) && decide ((e :: es).length + ([] : List Keyword).length + (if ([] : List Keyword).isEmpty then 0 else 1) < 30)) = true := by rfl)
    (hline : (apos.endLine == pos.line) = true := by rfl) (hs : starEach (e :: es) X.env = (false, eval e X.env) :: starEach es X.env := by rfl) (hplain : (backTo pos (starEach es X.env)).any (·.1) = false := by rfl) :
    SE X K cl E (.Call (.Attribute (.Name x px) name apos) (e :: es) [] pos) (tBM K T r (tVar i) t) (mMut T i f m) := ⟨C.kq ▸ pe_bm pa slot hty hm (pe_var hN hv hd hcd) ha.1 hbase hfew hline hs hplain, md_mut hf ha.2⟩
theorem se_mut0 (i : Nat) {T id : String} {name x : Str} {px : Pos} {r : V → List V → Hp → VK → Prop} {f : D → List D → Option (D × D)} (C : Cw X K E kk) (pa : PlainAttrs T) (slot : Slot T name id) (hty : typeOf (.builtin id) = pure (.type "method_descriptor")) (hm : MtR X id r) (hf : OpU ⟨K, cl⟩ r f)
    (hN : X.N[i]? = some x := by rfl) (hv : Vis X.env.scope x := by first | exact Or.inl rfl | exact Or.inr (Or.inl rfl) | exact Or.inr (Or.inr rfl)) (hd : (x == ("__debug__" : Str)) = false := by decide) (hcd : (x == ("__classdict__" : Str)) = false := by decide)
    (hbase : attributeBase (.Name x px) name X.env (eval (.Name x px) X.env) = eval (.Name x px) X.env := by rfl) (hline : (apos.endLine == pos.line) = true := by rfl) :
    SE X K cl E (.Call (.Attribute (.Name x px) name apos) [] [] pos) (tBM0 K T r (tVar i)) (mMut T i f aNil) :=
  ⟨C.kq ▸ pe_bm0 pa slot hty hm (pe_var hN hv hd hcd) hbase hline, fun F H ρ σ Q en pp => (md_mut (T := T) (i := i) hf (t := tNil) (m := aNil) fun F H ρ σ Q e p => p F H [] (.refl e) .nil) F H ρ σ Q en pp⟩
/-! append, pop, pop(i), reverse -/
def uAppend : D → List D → Option (D × D)
  | .list xs, [y] => if xs.length < sizeLine then some (.list (xs ++ [y]), .none) else none
  | _, _ => none
theorem OwnR.lst {ds : List D} {a : Addr} (h : OwnR G F H (.list ds) a) : ∃ xs, H a = some (.lst xs) ∧ Rs G F ds xs := h
theorem v_append : OpU G rAppend uAppend := fun F H d ds a xs Q d' x s ow rs q h => by
  cases d <;> first | (simp [uAppend] at q; done) | skip
  rename_i zs
  obtain ⟨ys, h1, h2⟩ := ow.lst
  match ds, rs, q with
  | [y], .cons r1 .nil, q =>
    simp only [uAppend] at q
    by_cases c : zs.length < sizeLine
    · rw [if_pos c] at q
      injection q with q; injection q with q1 q2
      subst q1; subst q2
      exact ⟨a, ys, _, rfl, rfl, h1, by rw [h2.length]; exact c, h _ _ ⟨_, upd_same, h2.append (.cons r1 .nil)⟩ .non⟩
    · rw [if_neg c] at q; cases q
def uPopAt : D → List D → Option (D × D)
  | .list xs, [.int i] => if -(2 ^ 63) ≤ i ∧ i < 2 ^ 63 then match seqIndex? i xs.length with
      | some k => match xs[k]? with
        | some y => some (.list (xs.eraseIdx k), y)
        | none => none
      | none => none
    else none
  | _, _ => none
theorem v_popAt : OpU G rPopAt uPopAt := fun F H d ds a xs Q d' x s ow rs q h => by
  cases d <;> first | (simp [uPopAt] at q; done) | skip
  rename_i zs
  obtain ⟨ys, h1, h2⟩ := ow.lst
  unfold uPopAt at q
  split at q
  · rename_i zs' i e1
    injection e1 with e1
    subst e1
    cases rs with
    | cons r1 r2 =>
      cases r2
      cases r1
      by_cases c : -(2 ^ 63) ≤ i ∧ i < 2 ^ 63
      · rw [if_pos c] at q
        cases k1 : seqIndex? i zs.length with
        | none => rw [k1] at q; cases q
        | some k =>
          rw [k1] at q
          dsimp only at q
          cases k2 : zs[k]? with
          | none => rw [k2] at q; cases q
          | some y =>
            rw [k2] at q
            injection q with q; injection q with q1 q2
            subst q1; subst q2
            obtain ⟨v, w1, w2⟩ := h2.getD k2
            exact ⟨a, ys, i, k, v, rfl, rfl, h1, c.1, c.2, by rw [h2.length]; exact k1, w1, h _ _ ⟨_, upd_same, h2.eraseIdx k⟩ w2⟩
      · rw [if_neg c] at q; cases q
  · cases q
def uReverse : D → List D → Option (D × D)
  | .list xs, [] => some (.list xs.reverse, .none)
  | _, _ => none
theorem v_reverse : OpU G rReverse uReverse := fun F H d ds a xs Q d' x s ow rs q h => by
  cases d <;> first | (simp [uReverse] at q; done) | skip
  rename_i zs
  obtain ⟨ys, h1, h2⟩ := ow.lst
  cases rs with
  | cons _ _ => cases q
  | nil =>
    simp only [uReverse] at q
    injection q with q; injection q with q1 q2
    subst q1; subst q2
    exact ⟨a, ys, rfl, rfl, h1, h _ _ ⟨_, upd_same, h2.reverse⟩ .non⟩

/-! ### x[k] = e, x[k] op= e, of an owned list -/
def setL (d : D) (k v : D) : Option D := match d, k with
  | .list xs, .int i => (ixN xs.length i).map fun j => .list (xs.set j v)
  | _, _ => none
def ownAt (ρ : EV) (i : Nat) : Option D := match ρ[i]? with
  | some (some (.own d)) => some d
  | _ => none
theorem ownAt_some {ρ : EV} {i : Nat} {d : D} (h : ownAt ρ i = some d) : ρ[i]? = some (some (Sl.own d)) := by
  unfold ownAt at h
  split at h
  · rename_i x q; injection h with h; subst h; exact q
  · cases h
def sSub (i : Nat) (k v : EV → Out (Rv × EV)) : EV → Out (Fl × EV) := fun ρ => (fzO (v ρ)).bind fun y => match y.1 with
  | .val dv => match ownAt y.2 i with
    | some _ => (fzO (k y.2)).bind fun z => match z.1 with
      | .val dk => match ownAt z.2 i with
        | some d => match setL d dk dv with
          | some d' => .ok (.next, z.2.set i (some (.own d')))
          | none => .bad
        | none => .bad
      | _ => .bad
    | none => .bad
  | _ => .bad
theorem set_own {i : Nat} {d dk dv d' : D} {a : Addr} {k v : V} {Q : Hp → Prop} (ow : OwnR G F H d a) (rk : R G F dk k) (rv : R G F dv v) (q : setL d dk dv = some d') (h : ∀ o', OwnR G F (upd H a o') d' a → Q (upd H a o')) : rSetL (.ref a) k v H Q := by
  unfold setL at q
  split at q
  · rename_i xs j
    obtain ⟨ys, h1, h2⟩ := ow.lst
    cases rk
    cases z : ixN xs.length j with
    | none => rw [z] at q; cases q
    | some n =>
      rw [z] at q
      simp only [Option.map_some] at q
      injection q with q
      subst q
      exact ⟨a, ys, j, n, rfl, rfl, h1, by rw [h2.length]; exact z, h _ ⟨_, upd_same, h2.set rv n⟩⟩
  · cases q
theorem ss_sub (i : Nat) {x : Str} {px ps : Pos} {k v : Expr} {tk tv : TE} {mk mv : EV → Out (Rv × EV)} (hk : SE X K cl E k tk mk) (hv : SE X K cl E v tv mv) (hN : X.N[i]? = some x := by rfl) (hvs : Vis X.env.scope x := by first | exact Or.inl rfl | exact Or.inr (Or.inl rfl) | exact Or.inr (Or.inr rfl)) (hd : (x == ("__debug__" : Str)) = false := by decide) (hcd : (x == ("__classdict__" : Str)) = false := by decide)
    (ha : ∀ v, assign (.Subscript (.Name x px) k ps) X.env v = (do let ov ← holding [v] (eval (.Name x px) X.env); let iv ← holding [v, ov] (eval k X.env); standAt ps; holding [v, ov, iv] (setItem ov iv v); release [v, ov, iv] []) := by intro _; rfl)
    (hs : swapsWithSole [.Subscript (.Name x px) k ps] v pos.line X.env = pure false := by rfl) (hw : swappedStores [.Subscript (.Name x px) k ps] v X.env = pure none := by rfl)
    (h1 : (assignEach [.Subscript (.Name x px) k ps] X.env).map (·.2) = [assign (.Subscript (.Name x px) k ps) X.env] := by rfl) :
    SS X K cl E np (.Assign [.Subscript (.Name x px) k ps] v pos) (tAsg tv (gSub (tVar i) tk rSetL)) (sSub i mk mv) :=
  ⟨ps_asg hv.1 (pg_sub (pe_var hN hvs hd hcd) hk.1 set_list ha) hs hw h1, fun A F H ρ σ Dn hn st p => by
    unfold sSub at p
    refine hv.2.fz.thenS st p fun F1 H1 ρ1 r w s1 t1 rr p1 => ?_
    cases r with
    | own d => exact p1.elim
    | ref d => exact p1.elim
    | val dv =>
    dsimp only at p1
    cases e2 : ownAt ρ1 i with
    | none => rw [e2] at p1; exact p1.elim
    | some d1 =>
    rw [e2] at p1
    obtain ⟨a, k1, k2, k3⟩ := s1.env.own i d1 (ownAt_some e2)
    refine ⟨.ref a, k1, ?_⟩
    refine hk.2.fz.thenS s1 p1 fun F2 H2 ρ2 r2 w2 s2 t2 rr2 p2 => ?_
    cases r2 with
    | own d => exact p2.elim
    | ref d => exact p2.elim
    | val dk =>
    dsimp only at p2
    cases e4 : ownAt ρ2 i with
    | none => rw [e4] at p2; exact p2.elim
    | some d =>
    rw [e4] at p2
    dsimp only at p2
    obtain ⟨a', z1, z2, z3⟩ := s2.env.own i d (ownAt_some e4)
    rw [k1] at z1
    injection z1 with z1; injection z1 with z1; injection z1 with z1
    subst z1
    cases q : setL d dk dv with
    | none => rw [q] at p2; exact p2.elim
    | some d' =>
      rw [q] at p2
      exact set_own (i := i) z3 rr2 (R.mono t2.fr rr) q fun o' w1 => p2 F2 _ σ (s2.stp (Stp.mut s2.env (ownAt_some e4) k1 w1))⟩
theorem get_list : PGet X (rIxL X.K) := by
  intro pins s σ H x y v u Q I rx ry h
  obtain ⟨p, xs, i, z, rfl, rfl, hq, he, q⟩ := h
  cases rx
  obtain ⟨t, rfl⟩ := ry
  obtain ⟨its, r, pl, hz⟩ := I.list hq
  obtain ⟨j, h1, h2, h3, h4, h5⟩ := atI_get he
  obtain ⟨w, ew, rw'⟩ := r.get h2
  have hl := r.length
  have hn := line63
  by_cases h0 : 0 ≤ i
  · have hj : i.toNat = j := by
      rw [seqIndex_of h0 h5] at h1
      exact Option.some.inj h1
    exact wpAny_getItem_list pl.isList h0 (by omega) (by rw [hj]; simpa using ew) ⟨z, H, I, rw', q⟩
  · have hj : (i + (its.toArray.size : Int)).toNat = j := by
      rw [seqIndex_neg (by omega) h4] at h1
      rw [List.size_toArray, ← hl]
      exact Option.some.inj h1
    exact wpAny_getItem_list_neg pl.isList (by omega) (by rw [List.size_toArray] <;> omega) (by omega) (by rw [hj]; simpa using ew) ⟨z, H, I, rw', q⟩
/-- x[k] += e, ints -/
def sSubAdd (i : Nat) (k v : EV → Out (Rv × EV)) : EV → Out (Fl × EV) := fun ρ => match ownAt ρ i with
  | some _ => (fzO (k ρ)).bind fun z => match z.1 with
    | .val (.int j) => match ownAt z.2 i with
      | some (.list xs) => match atI xs j with
        | some (.int n) => (fzO (v z.2)).bind fun y => match y.1 with
          | .val (.int c) => match ownAt y.2 i with
            | some d => match setL d (.int j) (.int (n + c)) with
              | some d' => .ok (.next, y.2.set i (some (.own d')))
              | none => .bad
            | none => .bad
          | _ => .bad
        | _ => .bad
      | _ => .bad
    | _ => .bad
  | none => .bad
theorem ss_subAdd (i : Nat) {x : Str} {px ps : Pos} {k v : Expr} {tk tv : TE} {mk mv : EV → Out (Rv × EV)} (C : Cw X K E kk) (hk : SE X K cl E k tk mk) (hv : SE X K cl E v tv mv) (hN : X.N[i]? = some x := by rfl) (hvs : Vis X.env.scope x := by first | exact Or.inl rfl | exact Or.inr (Or.inl rfl) | exact Or.inr (Or.inr rfl)) (hd : (x == ("__debug__" : Str)) = false := by decide) (hcd : (x == ("__classdict__" : Str)) = false := by decide)
    (ha : ∀ ov iv new, augStore k ov iv new = (do holding [new, ov, iv] (setItem ov iv new); release [new, ov, iv] []; pure .next) := by intros; rfl) :
    SS X K cl E np (.AugAssign (.Subscript (.Name x px) k ps) .Add v pos) (tAugS (tVar i) tk tv (rIxL K) (ipI fun i j => i + j) rSetL) (sSubAdd i mk mv) :=
  ⟨ps_augS (pe_var hN hvs hd hcd) hk.1 (C.kq ▸ get_list) hv.1 ip_add set_list ha, fun A F H ρ σ Dn hn st p => by
    unfold sSubAdd at p
    cases q0 : ownAt ρ i with
    | none => rw [q0] at p; exact p.elim
    | some d0 =>
    rw [q0] at p
    dsimp only at p
    obtain ⟨a, k1, k2, k3⟩ := st.env.own i d0 (ownAt_some q0)
    refine ⟨.ref a, k1, ?_⟩
    refine hk.2.fz.thenS st p fun F1 H1 ρ1 r w s1 t1 rr p1 => ?_
    cases r with
    | own d => exact p1.elim
    | ref d => exact p1.elim
    | val dk =>
    cases dk <;> first | exact p1.elim | skip
    rename_i j
    cases (show R _ F1 (.int j) w from rr)
    dsimp only at p1
    cases e4 : ownAt ρ1 i with
    | none => rw [e4] at p1; exact p1.elim
    | some d1 =>
    rw [e4] at p1
    cases d1 <;> first | exact p1.elim | skip
    rename_i xs
    dsimp only at p1
    obtain ⟨a', z1, z2, z3⟩ := s1.env.own i _ (ownAt_some e4)
    rw [k1] at z1
    injection z1 with z1; injection z1 with z1; injection z1 with z1
    subst z1
    obtain ⟨ys, w1, w2⟩ := z3.lst
    cases e5 : atI xs j with
    | none => rw [e5] at p1; exact p1.elim
    | some dn =>
    rw [e5] at p1
    cases dn <;> first | exact p1.elim | skip
    rename_i n
    dsimp only at p1
    obtain ⟨u, y1, y2⟩ := atI_rs w2 e5
    cases y2
    refine ⟨a, ys, j, _, rfl, rfl, .of w1, y1, ?_⟩
    refine hv.2.fz.thenS s1 p1 fun F2 H2 ρ2 r2 v2 s2 t2 rr2 p2 => ?_
    cases r2 with
    | own d => exact p2.elim
    | ref d => exact p2.elim
    | val dc =>
    cases dc <;> first | exact p2.elim | skip
    rename_i c
    cases (show R _ F2 (.int c) v2 from rr2)
    dsimp only at p2
    cases e7 : ownAt ρ2 i with
    | none => rw [e7] at p2; exact p2.elim
    | some d =>
    rw [e7] at p2
    dsimp only at p2
    obtain ⟨a'', x1, x2, x3⟩ := s2.env.own i d (ownAt_some e7)
    rw [k1] at x1
    injection x1 with x1; injection x1 with x1; injection x1 with x1
    subst x1
    cases q : setL d (.int j) (.int (n + c)) with
    | none => rw [q] at p2; exact p2.elim
    | some d' =>
      rw [q] at p2
      exact ⟨n, c, rfl, rfl, set_own (i := i) x3 (.int _) (.int _) q fun o' w1 => p2 F2 _ σ (s2.stp (Stp.mut s2.env (ownAt_some e7) k1 w1))⟩⟩
/-! ### over a text, sign by sign -/
def iS (m : EV → Out (Rv × EV)) : EV → Out (List D × EV) := fun ρ => (fzO (m ρ)).bind fun x => match x.1 with
  | .val (.str z) => .ok (z.cps.toList.map fun c => .str ⟨#[c]⟩, x.2)
  | _ => .bad
theorem itR_str {z : Str} : ItR G F (Its z) (z.cps.toList.map fun c => .str ⟨#[c]⟩) := fun F2 H2 s1 s2 => by
  refine ⟨fun i d hd => ?_, fun i hi => by have q := hi; simp at q; exact q⟩
  obtain ⟨c, h1, h2⟩ := (map_at _ _ _ _).mp hd
  have h3 : z.cps[i]? = some c := by simpa using h1
  have hl : i < z.cps.size := (Array.getElem?_eq_some_iff.mp h3).1
  refine ⟨hl, ?_⟩
  rintro x H3 ⟨rfl, c', h4, rfl⟩
  rw [h3] at h4
  injection h4 with h4
  subst h4
  subst h2
  exact ⟨F2, .refl s2, .str _⟩
theorem si_str {tg : Expr} (h : SE X K cl E e te me) : SI X K cl E tg e (iStr te) (iS me) := ⟨pi_str h.1, fun F H ρ σ Q en p => by
  refine h.2.then en p fun F1 H1 ρ1 r v s hr rr p1 => ?_
  cases r with
  | own d => exact p1.elim
  | ref i => exact p1.elim
  | val d =>
    cases d <;> first | exact p1.elim | skip
    rename_i z
    cases (show R _ F1 (.str z) v from rr)
    exact ⟨z, rfl, p1 F1 H1 _ s itR_str⟩⟩
theorem r_join (C : Cw X K E kk) : MtR X "str.join" (fun x xs H Q => ∃ a p, ∃ ys : List Str, x = .str a ∧ xs = [.ref p] ∧ (SqL K H p (ys.map V.str) ∨ SqT K H p (ys.map V.str)) ∧ (ys.map (·.length)).sum + ys.length * a.length ≤ 16777216 ∧ Q (.str (Txt.join a ys)) H) := C.kq ▸ mt_join
end
end Fr
namespace Fr
open PySem L2

/-- a module's constant -/
def Gc (K : PySem.W.Frag) (mg : Str → Option Value) (x : Str) (d : D) (v : V) : Prop := ∃ (u : Value), mg x = some u ∧ RelV v u ∧ ∀ (cl : Str → Addr) (F : Hp), R ⟨K, cl⟩ F d v
section
variable {G : Gx} {X : Cx} {K : PySem.W.Frag} {cl : Str → Addr} {E : XK} {kk : Nat} {e o b : Expr} {es : List Expr} {pos p apos : Pos} {te to tb : TE} {me mo mb : EV → Out (Rv × EV)} {F H F' H' : Hp} {ρ ρ' : EV} {σ : St} {np : Nat}
theorem se_gc {x : Str} {d : D} {v : V} (C : Cw X K E kk) (h : Gc K X.mg x d v) (hg : Gl X x := by rfl) (hd : (x == ("__debug__" : Str)) = false := by decide) : SE X K cl E (.Name x pos) (tC v) (mC d) :=
  let q := h.choose_spec
  ⟨pe_glob hg q.1 q.2.1 hd, md_c fun F => q.2.2 cl F⟩
/-! ### over a list, a tuple or a text -/
def iQ (m : EV → Out (Rv × EV)) : EV → Out (List D × EV) := fun ρ => (fzO (m ρ)).bind fun x => match x.1 with
  | .val (.list ds) => .ok (ds, x.2)
  | .val (.tuple ds) => .ok (ds, x.2)
  | .val (.str z) => .ok (z.cps.toList.map fun c => .str ⟨#[c]⟩, x.2)
  | _ => .bad
theorem pi_or {tg : Expr} {wi wi' : TI} (h : PI X tg e wi) (k : PI X tg e wi') : PI X tg e (fun σ H R => wi σ H R ∨ wi' σ H R) := ⟨fun pins s σ H R I q => q.elim (h.run pins s σ H R I) (k.run pins s σ H R I)⟩
theorem si_seq {tg : Expr} (C : Cw X K E kk) (h : SE X K cl E e te me) : SI X K cl E tg e (fun σ H R => iList K te σ H R ∨ iTup K te σ H R ∨ iStr te σ H R) (iQ me) := by
  refine ⟨pi_or (si_list C h).1 (pi_or (si_tup C h).1 (pi_str h.1)), fun F H ρ σ Q en p => ?_⟩
  have hl := (si_list (tg := tg) C h).2 F H ρ σ Q en
  have ht := (si_tup (tg := tg) C h).2 F H ρ σ Q en
  have hs := (si_str (tg := tg) h).2 F H ρ σ Q en
  unfold iQ at p
  unfold iL at hl
  unfold iT at ht
  unfold iS at hs
  revert p hl ht hs
  cases fzO (me ρ) with
  | bad => exact fun p _ _ _ => p.elim
  | ex c f ρ' => exact fun p hl _ _ => .inl (hl p)
  | ok x =>
    obtain ⟨r, ρ'⟩ := x
    cases r with
    | own d => exact fun p _ _ _ => p.elim
    | ref i => exact fun p _ _ _ => p.elim
    | val d =>
      cases d with
      | list ds => exact fun p hl _ _ => .inl (hl p)
      | tuple ds => exact fun p _ ht _ => .inr (.inl (ht p))
      | str z => exact fun p _ _ hs => .inr (.inr (hs p))
      | none => exact fun p _ _ _ => p.elim
      | bool b => exact fun p _ _ _ => p.elim
      | int b => exact fun p _ _ _ => p.elim
      | dict b => exact fun p _ _ _ => p.elim
/-! ### in, not in -/
def inL : D → D → Option Sl
  | d, .list ds => if (SeqAt.shaped d && SeqAt.shaped (.list ds)) = true then some (.val (.bool (ds.any fun z => PyData.eqv z d))) else none
  | _, _ => none
def ninL : D → D → Option Sl
  | d, .list ds => if (SeqAt.shaped d && SeqAt.shaped (.list ds)) = true then some (.val (.bool (!ds.any fun z => PyData.eqv z d))) else none
  | _, _ => none
theorem v_inL : Op2 G (rInD G.K) inL := fun F H d e x y Q s rx ry h => by
  cases e <;> first | exact h.elim | skip
  rename_i ds
  simp only [inL] at h
  by_cases q : (SeqAt.shaped d && SeqAt.shaped (.list ds)) = true
  · rw [if_pos q] at h
    obtain ⟨q1, q2⟩ := Bool.and_eq_true_iff.mp q
    exact ⟨d, ds, rx.dp s (SeqAt.canLay_of_shaped q1), ry.dp s (SeqAt.canLay_of_shaped q2), q1, q2, okS_val s h (.bl _)⟩
  · rw [if_neg q] at h; exact h.elim
theorem v_ninL : Op2 G (rNotInD G.K) ninL := fun F H d e x y Q s rx ry h => by
  cases e <;> first | exact h.elim | skip
  rename_i ds
  simp only [ninL] at h
  by_cases q : (SeqAt.shaped d && SeqAt.shaped (.list ds)) = true
  · rw [if_pos q] at h
    obtain ⟨q1, q2⟩ := Bool.and_eq_true_iff.mp q
    exact ⟨d, ds, rx.dp s (SeqAt.canLay_of_shaped q1), ry.dp s (SeqAt.canLay_of_shaped q2), q1, q2, okS_val s h (.bl _)⟩
  · rw [if_neg q] at h; exact h.elim
def flatD : D → Bool
  | .none => true
  | .bool _ => true
  | .int _ => true
  | .str _ => true
  | _ => false
theorem R.flat {d : D} {v : V} (h : R G F d v) (f : flatD d = true) : flatV v = true := by cases h <;> first | rfl | cases f
theorem Rd.flat {d : D} {v : V} (h : Rd G F H d v) (f : flatD d = true) : R G F d v := by
  cases d <;> first | (cases h; constructor) | cases f
theorem eqV_flat {d e : D} {v w : V} (h : R G F d v) (k : R G F e w) (fd : flatD d = true) (fe : flatD e = true) : eqV v w = PyData.eqv d e := by
  have nf : ∀ {b : Bool}, b = true → b = false → False := fun h k => by rw [h] at k; cases k
  cases h <;> (try exact (nf fd rfl).elim) <;> cases k <;> (try exact (nf fe rfl).elim) <;> simp [eqV, PyData.eqv]
theorem Rs.flat {ds : List D} {vs : List V} (h : Rs G F ds vs) (f : ds.all flatD = true) : vs.all flatV = true := by
  induction ds generalizing vs with
  | nil => cases h; rfl
  | cons d ds ih =>
    cases h with
    | cons r1 r2 =>
      simp only [List.all_cons, Bool.and_eq_true] at f ⊢
      exact ⟨r1.flat f.1, ih r2 f.2⟩
theorem inV_flat {d : D} {v : V} {ds : List D} {vs : List V} (h : Rs G F ds vs) (k : R G F d v) (f : ds.all flatD = true) (fd : flatD d = true) : inV v vs = ds.any fun z => PyData.eqv z d := by
  induction ds generalizing vs with
  | nil => cases h; rfl
  | cons e ds ih =>
    cases h with
    | cons r1 r2 =>
      simp only [List.all_cons, Bool.and_eq_true] at f
      unfold inV at ih ⊢
      simp only [List.any_cons]
      rw [eqV_flat r1 k f.1 fd, ih r2 f.2]
def inT : D → D → Option Sl
  | d, .tuple ds => if (flatD d && ds.all flatD) = true then some (.val (.bool (ds.any fun z => PyData.eqv z d))) else none
  | _, _ => none
def ninT : D → D → Option Sl
  | d, .tuple ds => if (flatD d && ds.all flatD) = true then some (.val (.bool (!ds.any fun z => PyData.eqv z d))) else none
  | _, _ => none
theorem v_inT : Op2 G (rIn G.K false) inT := fun F H d e x y Q s rx ry h => by
  cases e <;> first | exact h.elim | skip
  rename_i ds
  simp only [inT] at h
  by_cases q : (flatD d && ds.all flatD) = true
  · rw [if_pos q] at h
    obtain ⟨q1, q2⟩ := Bool.and_eq_true_iff.mp q
    obtain ⟨a, ys, rfl, k1, k2⟩ := ry
    have rd := rx.flat q1
    refine ⟨a, ys, rfl, .inr (sqT_same s k1), rd.flat q1, k2.flat q2, ?_⟩
    rw [if_neg Bool.false_ne_true, inV_flat k2 rd q2 q1]
    exact okS_val s h (.bl _)
  · rw [if_neg q] at h; exact h.elim
theorem v_ninT : Op2 G (rIn G.K true) ninT := fun F H d e x y Q s rx ry h => by
  cases e <;> first | exact h.elim | skip
  rename_i ds
  simp only [ninT] at h
  by_cases q : (flatD d && ds.all flatD) = true
  · rw [if_pos q] at h
    obtain ⟨q1, q2⟩ := Bool.and_eq_true_iff.mp q
    obtain ⟨a, ys, rfl, k1, k2⟩ := ry
    have rd := rx.flat q1
    refine ⟨a, ys, rfl, .inr (sqT_same s k1), rd.flat q1, k2.flat q2, ?_⟩
    rw [if_pos rfl, inV_flat k2 rd q2 q1]
    exact okS_val s h (.bl _)
  · rw [if_neg q] at h; exact h.elim
def inD (d e : D) : Option Sl := (inS d e).or ((inL d e).or (inT d e))
def ninD (d e : D) : Option Sl := (ninS d e).or ((ninL d e).or (ninT d e))
def rInA (K : PySem.W.Frag) : R2 := fun x y H Q => (∃ (c : Nat) (z : Str), x = .str ⟨#[c]⟩ ∧ y = .str z ∧ Q (.bl (decide (c ∈ z.cps.toList))) H) ∨ rInD K x y H Q ∨ rIn K false x y H Q
def rNinA (K : PySem.W.Frag) : R2 := fun x y H Q => (∃ (c : Nat) (z : Str), x = .str ⟨#[c]⟩ ∧ y = .str z ∧ Q (.bl (!decide (c ∈ z.cps.toList))) H) ∨ rNotInD K x y H Q ∨ rIn K true x y H Q
theorem or_in (C : Cw X K E kk) : OpR X (compareOp .In) (rInA K) := C.kq ▸ op_in_sign.or ((op_inD C.u65).or op_in_seq)
theorem or_nin (C : Cw X K E kk) : OpR X (compareOp .NotIn) (rNinA K) := C.kq ▸ op_notIn_sign.or ((op_notInD C.u65).or op_notIn_seq)
theorem v_in : Op2 G (rInA G.K) inD := v_inS.or (v_inL.or v_inT)
theorem v_nin : Op2 G (rNinA G.K) ninD := v_ninS.or (v_ninL.or v_ninT)
end
end Fr
namespace Fr
open PySem L2

section
variable {G : Gx} {X : Cx} {K : PySem.W.Frag} {cl : Str → Addr} {E : XK} {kk : Nat} {e o b : Expr} {es : List Expr} {pos p apos : Pos} {te to tb : TE} {me mo mb : EV → Out (Rv × EV)} {F H F' H' : Hp} {ρ ρ' : EV} {σ : St} {np : Nat}
/-! ### a tuple times a number, a text times a number -/
/-- at least two times, not empty -/
def rTimes (K : PySem.W.Frag) : R2 := fun x y H Q => ∃ l n xs, x = .ref l ∧ y = .int n ∧ SqT K H l xs ∧ xs ≠ [] ∧ 2 ≤ n ∧ (xs.length : Int) * n ≤ 1000000 ∧ ∀ p, H p = none → Q (.ref p) (upd H p (.tup (List.replicate n.toNat xs).flatten))
theorem op_times : OpR X (binaryOp .Mult) (rTimes X.K) := by
  intro pins s σ H x y v u Q I rx ry h
  obtain ⟨l, n, xs, rfl, rfl, hT, hne, h2, hz, q⟩ := h
  cases rx
  obtain ⟨tk, rfl⟩ := ry
  obtain ⟨its, r, ⟨⟨cls, dd, data, sl⟩, ho, hc, m, hd⟩, hs⟩ := I.tuple hT
  simp only at hc hd
  subst hc hd
  have hle : its.length = xs.length := r.length.symm
  have hpos : 0 < xs.length := List.length_pos_iff.mpr hne
  have h1 : (1 : Int) * n ≤ (xs.length : Int) * n := Int.mul_le_mul_of_nonneg_right (by omega) (by omega)
  have hn6 : n ≤ 1000000 := by omega
  have nat : xs.length * n.toNat ≤ 1000000 := by
    have e1 : ((xs.length * n.toNat : Nat) : Int) = (xs.length : Int) * n := by rw [Int.natCast_mul, Int.toNat_of_nonneg (by omega)]
    omega
  have emp : its.toArray.isEmpty = false := by
    cases its with
    | nil => simp at hle; omega
    | cons a b => rfl
  have sz : ((its.toArray.size : Nat) : Int) * n ≤ 1000000 := by rw [List.size_toArray, hle]; exact hz
  have fl : (List.replicate n.toNat its).flatten.length ≤ 1000000 := by rw [PyProof.Rows.lm_len_rep_flat, hle, Nat.mul_comm]; exact nat
  have big : (1000000 : Nat) ≤ sizeLine := by rw [sizeLine_eq]; decide
  have c0 : (decide (n < -(2 ^ 63)) || decide (n ≥ 2 ^ 63)) = false := by rw [decide_eq_false (by omega), decide_eq_false (by omega)]; rfl
  have c1 : (its.toArray.isEmpty || n == 1) = false := by rw [emp, Bool.false_or]; exact beq_eq_false_iff_ne.mpr (by omega)
  have c2 : (decide (n ≤ 0) || its.toArray.isEmpty) = false := by rw [emp, Bool.or_false]; exact decide_eq_false (by omega)
  have c4 : Builtin.Tuple.tupleTooMany (((its.toArray.size : Nat) : Int) * n) = false := by
    unfold Builtin.Tuple.tupleTooMany
    exact decide_eq_false (by have := big; omega)
  refine wpAny_binaryOp_repeat_ref (T := "tuple") (U := "int") (by decide) ⟨_, ho, rfl⟩ (fun s' => PySem.typeIs_int s' n tk) noFill_tuple_mul F.fills_int_mul F.slot_int_rmul repeat_tuple F.slot_int_index.lookup
    (call_meets F.slot_int_rmul (PySem.typeIs_int s n tk) F.entry_int_rmul (F.args_int_rmul_2 _ _) (int_rmul_tuple n tk l its.toArray m dd sl)
      ⟨ho, rfl, ⟨_, ho, rfl⟩, call_meets F.slot_tuple_mul ⟨_, ho, rfl⟩ F.entry_tuple_mul (F.args_tuple_mul_2 _ _) (tuple_mulW l its.toArray m dd sl n tk c0 c1 c2 (by omega) c4 (by rw [size_rep, List.size_toArray]; omega)) ⟨ho, ?_⟩⟩)
  rw [size_rep]
  refine ⟨.ref s.heap.objs.size, _, I.laid (t' := s.toks) (o := .tup (List.replicate n.toNat xs).flatten) (fun b ob z => Heap.get?_push_of_some _ z) (Nat.le_refl _) ?_, rfl, q _ (I.hok.fresh (Nat.le_refl _))⟩
  exact ⟨by rw [PyProof.Rows.lm_len_rep_flat, Nat.mul_comm]; omega, _, r.rep n.toNat, PyProof.Rows.IsTup.new _ _⟩
def mulT : D → D → Option Sl
  | .tuple xs, .int n => if xs ≠ [] ∧ 2 ≤ n ∧ (xs.length : Int) * n ≤ 1000000 then some (.val (.tuple (List.replicate n.toNat xs).flatten)) else none
  | _, _ => none
theorem v_mulT : Op2 G (rTimes G.K) mulT := fun F H d e x y Q s rx ry h => by
  cases d <;> cases e <;> first | exact h.elim | skip
  rename_i xs n
  simp only [mulT] at h
  by_cases q : xs ≠ [] ∧ 2 ≤ n ∧ (xs.length : Int) * n ≤ 1000000
  · rw [if_pos q] at h
    obtain ⟨a, ys, rfl, h1, r1⟩ := rx
    refine ⟨a, n, ys, rfl, ry, sqT_same s h1, fun z => q.1 ?_, q.2.1, by rw [r1.length]; exact q.2.2, fun p n => okS_tup s h (r1.rep _) n⟩
    subst z; cases r1; rfl
  · rw [if_neg q] at h; exact h.elim
def mulS : D → D → Option Sl
  | .str x, .int n => if 2 ≤ n ∧ 0 < x.length ∧ (x.length : Int) * n ≤ 1000000 then some (.val (.str ⟨(List.replicate n.toNat x.cps).foldl (· ++ ·) #[]⟩)) else none
  | _, _ => none
def rTimesS : R2 := fun x y H Q => ∃ z n, x = .str z ∧ y = .int n ∧ 2 ≤ n ∧ 0 < z.length ∧ (z.length : Int) * n ≤ 1000000 ∧ Q (.str ⟨(List.replicate n.toNat z.cps).foldl (· ++ ·) #[]⟩) H
theorem len_reps (a : Array Nat) : ∀ (n : Nat) (acc : Array Nat), ((List.replicate n a).foldl (· ++ ·) acc).size = acc.size + n * a.size
  | 0, acc => by simp
  | n + 1, acc => by
    rw [List.replicate_succ, List.foldl_cons, len_reps a n, Array.size_append, Nat.succ_mul]; omega
theorem op_timesS : OpR X (binaryOp .Mult) rTimesS := by
  intro pins s σ H x y v u Q I rx ry h
  obtain ⟨z, n, rfl, rfl, h2, h0, hz, q⟩ := h
  obtain ⟨t, rfl⟩ := rx
  obtain ⟨tk, rfl⟩ := ry
  have h1 : (1 : Int) * n ≤ (z.length : Int) * n := Int.mul_le_mul_of_nonneg_right (by omega) (by omega)
  have nat : z.length * n.toNat ≤ 1000000 := by
    have e1 : ((z.length * n.toNat : Nat) : Int) = (z.length : Int) * n := by rw [Int.natCast_mul, Int.toNat_of_nonneg (by omega)]
    omega
  have big : (1000000 : Nat) ≤ sizeLine := by rw [sizeLine_eq]; decide
  have n1 : (n == 1 || z.length == 0) = false := by
    rw [beq_eq_false_iff_ne.mpr (show n ≠ 1 by omega), beq_eq_false_iff_ne.mpr (show z.length ≠ 0 by omega)]; rfl
  refine PySem.P.mul_str (by rw [decide_eq_false (by omega), decide_eq_false (by omega)]; rfl) (fun _ _ => ?_) (fun _ _ => ?_) ?_
  · have d1 : (1000000 : Int) ≤ (2 ^ 63 - 1) / n := (Int.le_ediv_iff_mul_le (by omega)).mpr (by
      have : (1000000 : Int) * n ≤ 1000000 * 1000000 := Int.mul_le_mul_of_nonneg_left (by omega) (by omega)
      omega)
    have : (z.length : Int) ≤ 1000000 := by
      have h3 : (z.length : Int) * 1 ≤ (z.length : Int) * n := Int.mul_le_mul_of_nonneg_left (by omega) (by omega)
      omega
    omega
  · unfold Builtin.Str.tooLong
    exact decide_eq_false (by omega)
  · rw [if_neg (show ¬ n < 1 by omega), if_neg (by rw [n1]; exact Bool.false_ne_true)]
    refine ⟨?_, ?_⟩
    · show (_ : Array Nat).size ≤ _
      rw [len_reps]
      have e2 : n.toNat * z.cps.size = z.length * n.toNat := Nat.mul_comm _ _
      simp only [Array.size_empty, List.size_toArray, List.length_nil]
      omega
    · exact ⟨.str _, H, I.tok _, ⟨_, rfl⟩, q⟩
theorem v_mulS : Op2 G rTimesS mulS := fun F H d e x y Q s rx ry h => by
  cases d <;> cases e <;> first | exact h.elim | skip
  rename_i z n
  simp only [mulS] at h
  by_cases q : 2 ≤ n ∧ 0 < z.length ∧ (z.length : Int) * n ≤ 1000000
  · rw [if_pos q] at h; exact ⟨z, n, rx, ry, q.1, q.2.1, q.2.2, okS_val s h (.str _)⟩
  · rw [if_neg q] at h; exact h.elim
def mulA (d e : D) : Option Sl := (mulD d e).or ((mulT d e).or (mulS d e))
def rMulA (K : PySem.W.Frag) : R2 := fun x y H Q => (rI CMulW (fun i j => .int (i * j)) x y H Q ∨ rRep x y H Q) ∨ rTimes K x y H Q ∨ rTimesS x y H Q
theorem or_mulA (C : Cw X K E kk) : OpR X (binaryOp .Mult) (rMulA K) := C.kq ▸ or_mul.or (op_times.or op_timesS)
theorem v_mulA : Op2 G (rMulA G.K) mulA := v_mul.or (v_mulT.or v_mulS)
/-! ### {k: v, ..} with numbers and texts as keys -/
def encK (kds : List (Key × D)) : List (D × D) := kds.map fun p => (kD p.1, p.2)
inductive Rk (G : Gx) (F : Hp) : List (Key × D) → List (Key × V) → Prop
  | nil : Rk G F [] []
  | cons {k : Key} {d : D} {v : V} {es : List (Key × D)} {vs : List (Key × V)} : R G F d v → Rk G F es vs → Rk G F ((k, d) :: es) ((k, v) :: vs)
theorem Rk.rk {es : List (Key × D)} {vs : List (Key × V)} (h : Rk G F es vs) : RK G F (encK es) vs := by
  induction h with
  | nil => exact .nil
  | cons r _ ih => exact .cons r ih
theorem Rk.append {es es' : List (Key × D)} {vs vs' : List (Key × V)} (h : Rk G F es vs) (h' : Rk G F es' vs') : Rk G F (es ++ es') (vs ++ vs') := by
  induction h with
  | nil => exact h'
  | cons r _ ih => exact .cons r ih
theorem Rk.mono {F F' : Hp} {es : List (Key × D)} {vs : List (Key × V)} (s : Same F F') (h : Rk G F es vs) : Rk G F' es vs := by
  induction h with
  | nil => exact .nil
  | cons r _ ih => exact .cons (r.mono s) ih
theorem Rk.len {es : List (Key × D)} {vs : List (Key × V)} (h : Rk G F es vs) : vs.length = es.length := by
  induction h with
  | nil => rfl
  | cons _ _ ih => simp [ih]
def putA {κ α : Type} [DecidableEq κ] (kvs : List (κ × α)) (k : κ) (v : α) : List (κ × α) :=
  if (kvs.any fun kv => decide (kv.1 = k)) = true then kvs.map (fun kv => if kv.1 = k then (kv.1, v) else kv) else kvs ++ [(k, v)]
theorem Rk.any {es : List (Key × D)} {vs : List (Key × V)} (h : Rk G F es vs) (k : Key) : (vs.any fun kv => decide (kv.1 = k)) = es.any fun kv => decide (kv.1 = k) := by
  induction h with
  | nil => rfl
  | cons _ _ ih => simp only [List.any_cons, ih]
theorem Rk.put {es : List (Key × D)} {vs : List (Key × V)} {d : D} {v : V} (h : Rk G F es vs) (k : Key) (r : R G F d v) : Rk G F (putA es k d) (putK vs k v) := by
  unfold putA putK
  rw [h.any k]
  by_cases q : (es.any fun kv => decide (kv.1 = k)) = true
  · rw [if_pos q, if_pos q]
    clear q
    induction h with
    | nil => exact .nil
    | @cons k' d' v' es vs r' _ ih =>
      simp only [List.map_cons]
      by_cases z : k' = k
      · rw [if_pos z, if_pos z]; exact .cons r ih
      · rw [if_neg z, if_neg z]; exact .cons r' ih
  · rw [if_neg q, if_neg q]; exact h.append (.cons r .nil)
def mergeA (kvs more : List (Key × D)) : List (Key × D) := more.foldl (fun acc kv => putA acc kv.1 kv.2) kvs
theorem Rk.merge {more : List (Key × D)} {mv : List (Key × V)} (hm : Rk G F more mv) : ∀ {es : List (Key × D)} {vs : List (Key × V)}, Rk G F es vs → Rk G F (mergeA es more) (mergeK vs mv) := by
  induction hm with
  | nil => exact fun h => h
  | cons r _ ih => exact fun h => ih (h.put _ r)
def keyD : D → Option Key
  | .int i => some (.inl i)
  | .str x => some (.inr x)
  | _ => none
def keysD : List (D × D) → Option (List (Key × D))
  | [] => some []
  | (k, d) :: r => match keyD k, keysD r with
    | some k, some r => some ((k, d) :: r)
    | _, _ => none
abbrev Mx := EV → Out (Rv × EV)
def dPairs : List (Mx × Mx) → EV → Out (List (D × D) × EV)
  | [], ρ => .ok ([], ρ)
  | (k, v) :: r, ρ => (fzO (k ρ)).bind fun x => match x.1 with
    | .val dk => (fzO (v x.2)).bind fun y => match y.1 with
      | .val dv => (dPairs r y.2).bind fun z => .ok ((dk, dv) :: z.1, z.2)
      | _ => .bad
    | _ => .bad
inductive RPs (G : Gx) (F : Hp) : List (D × D) → List (V × V) → Prop
  | nil : RPs G F [] []
  | cons {k d : D} {x y : V} {es : List (D × D)} {vs : List (V × V)} : R G F k x → R G F d y → RPs G F es vs → RPs G F ((k, d) :: es) ((x, y) :: vs)
theorem RPs.keys {es : List (D × D)} {vs : List (V × V)} (h : RPs G F es vs) : ∀ kds, keysD es = some kds → ∃ kvs : List (Key × V), vs = kvs.map (fun kv => (kV kv.1, kv.2)) ∧ Rk G F kds kvs := by
  induction h with
  | nil => intro kds q; simp [keysD] at q; subst q; exact ⟨[], rfl, .nil⟩
  | @cons k d x y es vs r1 r2 _ ih =>
    intro kds q
    simp only [keysD] at q
    cases z1 : keyD k with
    | none => rw [z1] at q; cases q
    | some k' =>
      cases z2 : keysD es with
      | none => rw [z1, z2] at q; cases q
      | some r' =>
        rw [z1, z2] at q
        injection q with q
        subst q
        obtain ⟨kvs, e1, e2⟩ := ih r' z2
        refine ⟨(k', y) :: kvs, ?_, .cons r2 e2⟩
        rw [e1, List.map_cons]
        congr 2
        cases k <;> first | (simp [keyD] at z1; done) | (simp only [keyD] at z1; injection z1 with z1; subst z1; cases r1; rfl)
inductive SPp (X : Cx) (K : PySem.W.Frag) (cl : Str → Addr) (E : XK) (pos : Pos) : List (Option Expr) → List Expr → List (TE × TE) → List (Mx × Mx) → Prop
  | nil : SPp X K cl E pos [] [] [] []
  | cons {k v : Expr} {ks : List (Option Expr)} {vs : List Expr} {tk tv : TE} {mk mv : Mx} {ts : List (TE × TE)} {ms : List (Mx × Mx)} : SE X K cl E k tk mk → SE X K cl E v tv mv → SPp X K cl E pos ks vs ts ms → SPp X K cl E pos (some k :: ks) (v :: vs) ((tk, tv) :: ts) ((mk, mv) :: ms)
theorem SPp.pps {ks : List (Option Expr)} {vs : List Expr} {ts : List (TE × TE)} {ms : List (Mx × Mx)} (h : SPp X K cl E pos ks vs ts ms) : PPs X pos ks vs ts := by
  induction h with
  | nil => exact pps_nil
  | cons h1 h2 _ ih => exact pps_cons h1.1 h2.1 ih
theorem SPp.md {ks : List (Option Expr)} {vs : List Expr} {ts : List (TE × TE)} {ms : List (Mx × Mx)} (h : SPp X K cl E pos ks vs ts ms) : ∀ {F H : Hp} {ρ : EV} {σ : St} {Q : List (V × V) → Hp → Prop}, EnvR ⟨K, cl⟩ F H ρ σ →
    PostG (fun (x : List (D × D) × EV) => ∀ F' H' ps, Stp ⟨K, cl⟩ F H ρ F' H' x.2 σ → RPs ⟨K, cl⟩ F' x.1 ps → Q ps H') (XC ⟨K, cl⟩ E F H σ ρ) (dPairs ms ρ) → tPairs ts σ H Q := by
  induction h with
  | nil => exact fun en p => p _ _ [] (.refl en) .nil
  | @cons k v ks vs tk tv mk mv ts ms h1 h2 _ ih =>
    intro F H ρ σ Q en p
    simp only [dPairs] at p
    refine h1.2.then en p fun F1 H1 ρ1 r x s hr rr p1 => ?_
    cases r with
    | own d => exact p1.elim
    | ref i => exact p1.elim
    | val dk =>
    dsimp only at p1
    refine h2.2.then s.env p1 fun F2 H2 ρ2 r2 y s2 hr2 rr2 p2 => ?_
    cases r2 with
    | own d => exact p2.elim
    | ref i => exact p2.elim
    | val dv =>
    dsimp only at p2
    refine ih s2.env ?_
    refine PostG.imp ((post_bind _ _).mp p2) (fun z q F' H' ps t rp => ?_) fun _ _ _ q => q
    exact q F' H' _ ((s.trans s2).trans t) (.cons ((R.mono s2.fr rr).mono t.fr) (R.mono t.fr rr2) rp)
def mDisp (ms : List (Mx × Mx)) : EV → Out (Rv × EV) := fun ρ => (dPairs ms ρ).bind fun x => match keysD x.1 with
  | some kds => if kds.length ≤ 15 then .ok (.own (.dict (encK (mergeA [] kds))), x.2) else .bad
  | none => .bad
theorem se_disp {ks : List (Option Expr)} {vs : List Expr} {ts : List (TE × TE)} {ms : List (Mx × Mx)} (h : SPp X K cl E pos ks vs ts ms) (hall : ks.all (·.isSome) = true := by rfl) (hl : ks.length = vs.length := by rfl) (h0 : ks ≠ [] := by intro z; cases z) (h15 : ks.length ≤ 15 := by decide) : SE X K cl E (.Dict ks vs pos) (tDisp ts) (mDisp ms) :=
  ⟨pe_disp h.pps hall hl h0 h15, fun F H ρ σ Q en p q n => by
    have g1 : Grow F H F (upd H q (.dK [])) := .beside en.same n
    have t1 := g1.stp en
    have nw : ∀ i, ¬ Ow ρ σ i q := fun i w => by obtain ⟨y, hy⟩ := en.there w; rw [n] at hy; cases hy
    unfold mDisp at p
    refine h.md t1.env (PostG.imp ((post_bind _ _).mp p) (fun x z F' H' ps t rp => ?_) fun _ _ _ z => z.step t1)
    have h1 : H' q = some (.dK []) := t.keep _ _ upd_same nw
    have f1 : F' q = none := by
      cases y : F' q with
      | none => rfl
      | some o =>
        rcases t.new _ o y with u | u
        · rw [en.same.free n] at u; cases u
        · rw [upd_same] at u; cases u
    refine ⟨h1, ?_⟩
    cases y : keysD x.1 with
    | none => rw [y] at z; exact z.elim
    | some kds =>
      rw [y] at z
      dsimp only at z
      obtain ⟨kvs, e1, e2⟩ := rp.keys kds y
      by_cases c : kds.length ≤ 15
      · rw [if_pos c] at z
        refine ⟨kvs, e1, by rw [e2.len]; exact c, ?_⟩
        have tt := t1.trans t
        refine z F' _ _ (tt.upd' n f1 h1 fun i w => nw i ((tt.ow i).mp w)) ⟨q, rfl, f1, n, .inl ⟨_, upd_same, ?_⟩⟩
        exact (e2.merge (es := []) (vs := []) .nil).rk
      · rw [if_neg c] at z; exact z.elim⟩

/-! ### repr of a dict of flat things -/
theorem flat_reads {h : Heap} {d : D} {v : V} {u : Value} (r : R G F d v) (rv : RelV v u) (f : flatD d = true) : Reads h u d [] := by
  have nf : ∀ {b : Bool}, b = true → b = false → False := fun h k => by rw [h] at k; cases k
  cases r <;> (try exact (nf f rfl).elim)
  · cases rv; exact .none
  · cases rv; exact .bool _
  · obtain ⟨t, rfl⟩ := rv; exact .int _ _
  · obtain ⟨t, rfl⟩ := rv; exact .str _ _
theorem key_reads {h : Heap} {k : Key} {u : Value} (q : keyIs k u = true) : Reads h u (kD k) [] := by
  rcases keyIs_shape q with ⟨i, t, rfl, rfl⟩ | ⟨x, t, rfl, rfl⟩
  · exact .int _ _
  · exact .str _ _
def flatKv (es : List (D × D)) : Bool := es.all fun p => flatD p.2
theorem dict_readsAll {P : Program} {w : World} {h : Heap} : ∀ {es : List (D × D)} {kvs : List (Key × V)} {vs : List (Key × Value)} {ens : List DictEntry}, RK G F es kvs → KV kvs vs → Pairs (mixKind P w) ens vs → flatKv es = true →
    ReadsAll h (ens.map (·.key)) (es.map (·.1)) [] ∧ ReadsAll h (ens.map (·.val)) (es.map (·.2)) []
  | _, _, _, _, .nil, .nil, .nil, _ => ⟨.nil, .nil⟩
  | _, _, _, _, .cons r1 r2, .cons ⟨e1, e2⟩ k2, .cons p1 p2 p3, f => by
    simp only [flatKv, List.all_cons, Bool.and_eq_true] at f
    obtain ⟨h1, h2⟩ := dict_readsAll (h := h) r2 k2 p3 f.2
    dsimp only at e1 e2
    subst e1
    exact ⟨ReadsAll.cons (as := []) (key_reads p1) h1, ReadsAll.cons (as := []) (flat_reads r1 (by have z := e2; rw [← p2] at z; exact z) f.1) h2⟩
def reprK : D → Option Sl
  | .dict es => if ((keysD es).isSome && !es.isEmpty && flatKv es && (PyData.dict es).showable && decide ((PyData.dict es).depth ≤ 64) && decide ((PyData.dict es).shown.length ≤ sizeLine) ) = true then some (.val (.str (PyData.dict es).shown)) else none
  | _ => none
def rReprK (G : Gx) : List V → Hp → VK → Prop := fun xs H Q => ∃ a es kvs F, xs = [.ref a] ∧ H a = some (.dK kvs) ∧ RK G F es kvs ∧ flatKv es = true ∧ (PyData.dict es).showable = true ∧ (PyData.dict es).depth ≤ 64 ∧ (PyData.dict es).shown.length ≤ sizeLine ∧ Q (.str (PyData.dict es).shown) H
theorem call_reprK (C : Cw X K E kk) : CallR X (.builtin "repr") (rReprK ⟨K, cl⟩) := by
  intro pins s σ H xs us Q I r h
  obtain ⟨a, es, kvs, F, rfl, ha, rk, hf, hs, hd, hl, q⟩ := h
  obtain ⟨u, rfl, rx⟩ := vals1 r
  cases rx
  obtain ⟨_, nsys, vs, kv, o, ens, ep, ho, hex, hdat, hko, hpr, hnd⟩ := I.hok a _ ha
  obtain ⟨h1, h2⟩ := dict_readsAll (h := s.heap) rk kv hpr hf
  have rd : Reads s.heap (.ref a) (.dict es) (a :: [] ++ []) := .dict ho hex.1 hdat h1 h2
  have hu := C.room.un
  refine PySem.repr_of_reads' rd hs (fun _ z => ?_) C.gd (by omega) (fun _ _ e => e) (fun h' k tk kp => ⟨.str _, H, I.kept kp, ⟨k, rfl⟩, q⟩) hl
  simp only [List.append_nil, List.mem_cons, List.not_mem_nil, or_false] at z
  rw [z, beq_self_eq_true] at nsys; cases nsys
theorem v_reprK : OpN G (rReprK G) (one reprK) := v_one fun F H d x Q s rx h => by
  cases d with
  | dict es =>
    simp only [reprK] at h
    by_cases q : ((keysD es).isSome && !es.isEmpty && flatKv es && (PyData.dict es).showable && decide ((PyData.dict es).depth ≤ 64) && decide ((PyData.dict es).shown.length ≤ sizeLine) ) = true
    · rw [if_pos q] at h
      simp only [Bool.and_eq_true, decide_eq_true_eq, Bool.not_eq_true'] at q
      obtain ⟨a, rfl, k⟩ := rx
      rcases k with ⟨kvs, k, r⟩ | ⟨kvs, k, r⟩ | ⟨c, es', dx, fs, rfl, k, r⟩ | ⟨ns, rfl, k⟩
      · exact ⟨a, es, kvs, F, rfl, k, r, q.1.1.1.2, q.1.1.2, q.1.2, q.2, okS_val s h (.str _)⟩
      · cases r with
        | nil => cases q.1.1.1.1.2
        | cons _ _ => cases q.1.1.1.1.1
      · cases q.1.1.1.1.1
      · cases q.1.1.1.1.1
    · rw [if_neg q] at h; exact h.elim
  | _ => exact h.elim
def reprA : List D → Option Sl := fun ds => (reprD ds).or (one reprK ds)
theorem or_repr (C : Cw X K E kk) : CallR X (.builtin "repr") (fun xs H Q => rRepr K xs H Q ∨ rReprK ⟨K, cl⟩ xs H Q) := (call_repr C).or (call_reprK C)
theorem v_reprA : OpN ⟨K, cl⟩ (fun xs H Q => rRepr K xs H Q ∨ rReprK ⟨K, cl⟩ xs H Q) reprA := OpN.or v_repr v_reprK
end
end Fr
namespace Fr
open PySem L2

/-! ### the end of a law -/
def scrD (ns : List Int) : D := .dict [(.none, .list (ns.map PyData.int))]
def Plain (mf : Mf) (n : Nat) : Prop := ∀ ns : List Int, ns.length ≤ n → ∃ ρ, mf [some (.val (scrD ns))] = .ok (.val (.bool true), ρ)
theorem sp_end {K : PySem.W.Frag} {cl : Str → Addr} {mf : Mf} {n : Nat} (h : Plain mf n) {H : Hp} {a : Addr} {ns : List Int} (hl : ns.length ≤ n) (hS : SqL K H a (ns.map V.int)) : SpF ⟨K, cl⟩ mf [.ref a] H (fun v _ => v = .bl true) E0 := by
  obtain ⟨ρ, e⟩ := h ns hl
  refine ⟨H, [some (.val (scrD ns))], ⟨fun _ _ z => z, rfl, fun i d z => ?_, fun i d z => ?_, fun i j b y z => ?_⟩, fun x hx => ?_, ?_⟩
  · match i, z with
    | 0, z =>
      injection z with z; injection z with z; injection z with z; subst z
      exact ⟨_, rfl, .scr hS⟩
    | _ + 1, z => cases z
  · match i, z with
    | 0, z => injection z with z; injection z with z; cases z
    | _ + 1, z => cases z
  · obtain ⟨⟨d, y⟩, _⟩ := y
    match i, y with
    | 0, y => injection y with y; injection y with y; cases y
    | _ + 1, y => cases y
  · intro z; subst z; simp at hx
  · rw [e]
    intro F' H' v _ r
    exact (show R _ F' (.bool true) v from r).rd (F := F') (H := F') fun _ _ z => z
theorem gc_int {K : PySem.W.Frag} {mg : Str → Option Value} {h : Heap} {x : Str} {i : Int} {t : Tok} (X : K.In h) (G : h.Ns mainGlobals mg) (a : PySem.W.nsIn K mainGlobals x = some (some (.int i t))) : Gc K mg x (.int i) (.int i) :=
  ⟨_, PySem.W.mg_of X G a, ⟨t, rfl⟩, fun _ _ => .int i⟩
theorem gc_str {K : PySem.W.Frag} {mg : Str → Option Value} {h : Heap} {x y : Str} {t : Tok} (X : K.In h) (G : h.Ns mainGlobals mg) (a : PySem.W.nsIn K mainGlobals x = some (some (.str y t))) : Gc K mg x (.str y) (.str y) :=
  ⟨_, PySem.W.mg_of X G a, ⟨t, rfl⟩, fun _ _ => .str y⟩
end Fr
namespace Fr
open PySem L2

/-! ### reckoning with mirrors -/
theorem eqD_int (a b : Int) : eqD (.int a) (.int b) = some (.val (.bool (decide (a = b)))) := by
  show some (Sl.val (.bool (a == b))) = _
  rw [show (a == b) = decide (a = b) by rw [Bool.eq_iff_iff]; simp]
theorem neD_int (a b : Int) : neD (.int a) (.int b) = some (.val (.bool (!decide (a = b)))) := by
  show some (Sl.val (.bool (!(a == b)))) = _
  rw [show (a == b) = decide (a = b) by rw [Bool.eq_iff_iff]; simp]
theorem eqD_str (a b : Str) : eqD (.str a) (.str b) = some (.val (.bool (decide (a = b)))) := rfl
theorem neD_str (a b : Str) : neD (.str a) (.str b) = some (.val (.bool (!decide (a = b)))) := rfl
theorem eqD_nil (xs : List D) (hc : PyData.canLayAll0 xs = true) (hd : PyData.depthAll xs ≤ 63) : eqD (.list xs) (.list []) = some (.val (.bool xs.isEmpty)) := by
  have e : (SeqAt.shaped (.list xs) && SeqAt.shaped (.list [])) = true := by
    have h1 : SeqAt.shaped (.list xs) = true := Bool.and_eq_true_iff.mpr ⟨by simpa only [PyData.canLay0] using hc, decide_eq_true (by simp only [PyData.depth]; omega)⟩
    rw [h1]; rfl
  show Option.or none (eqD0 _ _) = _
  unfold eqD0
  rw [if_pos e]
  cases xs <;> rfl
theorem ixD_list (xs : List D) (i : Int) : ixD (.list xs) (.int i) = (atI xs i).map Sl.val := by
  show Option.or ((atI xs i).map Sl.val) (Option.or none none) = _
  cases (atI xs i).map Sl.val <;> rfl
theorem ixD_tuple (xs : List D) (i : Int) : ixD (.tuple xs) (.int i) = (atI xs i).map Sl.val := by
  show Option.or none (Option.or ((atI xs i).map Sl.val) none) = _
  cases (atI xs i).map Sl.val <;> rfl
theorem ixD_str (z : Str) (i : Int) (h : z.length ≤ sizeLine) : ixD (.str z) (.int i) = (atI z.cps.toList i).map fun c => .val (.str ⟨#[c]⟩) := by
  show Option.or none (Option.or none (if z.length ≤ sizeLine then (atI z.cps.toList i).map fun c => Sl.val (.str ⟨#[c]⟩) else none)) = _
  rw [if_pos h]
  cases (atI z.cps.toList i).map fun c => Sl.val (.str ⟨#[c]⟩) <;> rfl
theorem addD_int (a b : Int) : addD (.int a) (.int b) = some (.val (.int (a + b))) := rfl
theorem subD_int (a b : Int) : subD (.int a) (.int b) = some (.val (.int (a - b))) := rfl
theorem addD_str (a b : Str) (h : a.length + b.length ≤ sizeLine) : addD (.str a) (.str b) = some (.val (.str (a ++ b))) := by
  show Option.or none (Option.or (if a.length + b.length ≤ sizeLine then some (Sl.val (.str (a ++ b))) else none) (Option.or none none)) = _
  rw [if_pos h]; rfl
theorem addD_list (a b : List D) (h : a.length + b.length ≤ sizeLine) : addD (.list a) (.list b) = some (.own (.list (a ++ b))) := by
  show Option.or none (Option.or none (Option.or (if a.length + b.length ≤ sizeLine then some (Sl.own (.list (a ++ b))) else none) none)) = _
  rw [if_pos h]; rfl
theorem mulA_int (a b : Int) (h : CMulW a b) : mulA (.int a) (.int b) = some (.val (.int (a * b))) := by
  show Option.or (Option.or (if CMulW a b then some (Sl.val (.int (a * b))) else none) none) (Option.or none none) = _
  rw [if_pos h]; rfl
theorem mulA_list (xs : List D) (k : Int) (h : -(2 ^ 63) ≤ k ∧ k < 2 ^ 63 ∧ xs.length * k.toNat ≤ sizeLine) : mulA (.list xs) (.int k) = some (.own (.list (List.replicate k.toNat xs).flatten)) := by
  show Option.or (Option.or none (if -(2 ^ 63) ≤ k ∧ k < 2 ^ 63 ∧ xs.length * k.toNat ≤ sizeLine then some (Sl.own (.list (List.replicate k.toNat xs).flatten)) else none)) (Option.or none none) = _
  rw [if_pos h]; rfl
theorem powD_int (a b : Int) (h : CPow a b) : powD (.int a) (.int b) = some (.val (.int (a ^ b.toNat))) := by
  simp only [powD, if_pos h]
theorem modD_int (a b : Int) (h : 0 < b) : modD (.int a) (.int b) = some (.val (.int (a % b))) := by
  simp only [modD, if_pos h]
theorem divD_int (a b : Int) (h : CDivW a b) : divD (.int a) (.int b) = some (.val (.int (a / b))) := by
  simp only [divD, if_pos h]
theorem log2_small {i : Int} {n : Nat} (h : i.natAbs < 2 ^ n) (hn : 0 < n) : i.natAbs.log2 < n := by
  by_cases z : i.natAbs = 0
  · rw [z, Nat.log2_zero]; exact hn
  · exact (Nat.log2_lt z).mpr h
theorem cmul_small {a b : Int} (ha : -(2 ^ 400) < a ∧ a < 2 ^ 400) (hb : -(2 ^ 400) < b ∧ b < 2 ^ 400) : CMulW a b := by
  have h1 := log2_small (i := a) (n := 400) (by omega) (by omega)
  have h2 := log2_small (i := b) (n := 400) (by omega) (by omega)
  unfold CMulW; omega
theorem cdiv_small {a b : Int} (hb : 0 < b ∧ b < 2 ^ 400) : CDivW a b :=
  ⟨hb.1, by have h2 := log2_small (i := b) (n := 400) (by omega) (by omega); omega⟩
theorem atI_nat {α : Type} {xs : List α} {i : Int} (h0 : 0 ≤ i) (h1 : i < xs.length) : ∃ x, atI xs i = some x ∧ x ∈ xs := by
  refine ⟨xs[i.toNat]'(by omega), ?_, List.getElem_mem _⟩
  unfold atI ixN
  rw [if_pos h0, if_pos h1]
  show xs[i.toNat]? = _
  exact List.getElem?_eq_getElem (by omega)
theorem size_big : 1000000 ≤ sizeLine := by rw [sizeLine_eq]; decide
/-! ### what a mirror gives -/
inductive W {α : Type} (o : Out α) (Q : α → Prop) : Prop
  | it (h : ∃ x, o = .ok x ∧ Q x) : W o Q
  | no (h : False) : W o Q
theorem W.idt {α : Type} {o : Out α} {Q : α → Prop} (h : W o Q) : W o Q := h
theorem W.ex {α : Type} {o : Out α} {Q : α → Prop} (h : W o Q) : ∃ x, o = .ok x ∧ Q x := by
  cases h with
  | it h => exact h
  | no h => exact h.elim
theorem W.ok {α : Type} {a : α} {Q : α → Prop} (h : Q a) : W (.ok a) Q := .it ⟨a, rfl, h⟩
theorem W.mono {α : Type} {o : Out α} {Q Q' : α → Prop} (h : W o Q) (k : ∀ x, Q x → Q' x) : W o Q' := by
  obtain ⟨x, e, q⟩ := h.ex
  exact .it ⟨x, e, k x q⟩
theorem W.of {α : Type} {o : Out α} {Q : α → Prop} {x : α} (e : o = .ok x) (h : Q x) : W o Q := .it ⟨x, e, h⟩
theorem w_bind {α β : Type} {o : Out α} {k : α → Out β} {Q : β → Prop} (h : W o fun x => W (k x) Q) : W (o.bind k) Q := by
  obtain ⟨x, e, q⟩ := h.ex
  subst e
  exact q
theorem w_bindO {α β : Type} {o : Out α} {k : α → β} {Q : β → Prop} (h : W o fun x => Q (k x)) : W (o.bind fun x => .ok (k x)) Q := w_bind (h.mono fun _ h => .ok h)
theorem w_fz {o : Out (Rv × EV)} {Q : Rv × EV → Prop} (h : W o fun x => Q (fz x.1, x.2)) : W (fzO o) Q := by
  obtain ⟨x, e, q⟩ := h.ex
  subst e
  exact .ok q
section
variable {ρ : EV} {a b c : EV → Out (Rv × EV)} {ta tb : EV → Out (Bool × EV)} {Q : Rv × EV → Prop} {Qb : Bool × EV → Prop} {Qs : Fl × EV → Prop} {Qa : List Rv × EV → Prop} {Qi : List D × EV → Prop} {sa sb : EV → Out (Fl × EV)} {as : EV → Out (List Rv × EV)} {np i : Nat}
theorem w_var {d : D} (h : ρ[i]? = some (some (.val d))) (q : Q (.val d, ρ)) : W (mVar i ρ) Q := by unfold mVar; rw [h]; first | exact W.ok (q) | exact q
theorem w_varO {d : D} (h : ρ[i]? = some (some (.own d))) (q : Q (.ref i, ρ)) : W (mVar i ρ) Q := by unfold mVar; rw [h]; first | exact W.ok (q) | exact q
theorem w_varE (h : ∃ d, ρ[i]? = some (some (.val d)) ∧ Q (.val d, ρ)) : W (mVar i ρ) Q := w_var h.choose_spec.1 h.choose_spec.2
theorem w_varF (h : (∃ d, ρ[i]? = some (some (.own d))) ∧ Q (.ref i, ρ)) : W (mVar i ρ) Q := w_varO h.1.choose_spec h.2
theorem w_c {d : D} (q : Q (.val d, ρ)) : W (mC d ρ) Q := .ok q
theorem w_m2 {f : D → D → Option Sl} (h : W (a ρ) fun x => W (b x.2) fun y => ∃ d e s, rdv y.2 (fz x.1) = some d ∧ rdv y.2 (fz y.1) = some e ∧ f d e = some s ∧ Q (s.rv, y.2)) : W (m2 f a b ρ) Q := by
  unfold m2
  refine w_bind (w_fz (h.mono fun x h => w_bind (w_fz (h.mono fun y h => ?_))))
  obtain ⟨d, e, s, h1, h2, h3, h4⟩ := h
  dsimp only
  rw [h1, h2]; dsimp only; rw [h3]; first | exact W.ok (h4) | exact h4
theorem w_m1 {f : D → Option Sl} (h : W (a ρ) fun x => ∃ d s, rdv x.2 (fz x.1) = some d ∧ f d = some s ∧ Q (s.rv, x.2)) : W (m1 f a ρ) Q := by
  unfold m1
  refine w_bind (w_fz (h.mono fun x h => ?_))
  obtain ⟨d, s, h1, h3, h4⟩ := h
  dsimp only
  rw [h1]; dsimp only; rw [h3]; first | exact W.ok (h4) | exact h4
theorem w_mB (h : W (a ρ) fun x => ∃ k, rdv x.2 (fz x.1) = some (.bool k) ∧ Qb (k, x.2)) : W (mB a ρ) Qb := by
  unfold mB
  refine w_bind (w_fz (h.mono fun x h => ?_))
  obtain ⟨k, h1, h4⟩ := h
  dsimp only
  rw [h1]; first | exact W.ok (h4) | exact h4
theorem w_mCh {f g : D → D → Option Sl} (h : W (a ρ) fun x => W (b x.2) fun y => ∃ d e s, rdv y.2 (fz x.1) = some d ∧ rdv y.2 (fz y.1) = some e ∧ f d e = some (.val (.bool s)) ∧ (s = true → W (c y.2) fun z => ∃ e2 w s2, rdv z.2 (fz y.1) = some e2 ∧ rdv z.2 (fz z.1) = some w ∧ g e2 w = some s2 ∧ Q (s2.rv, z.2)) ∧ (s = false → Q (.val (.bool false), y.2))) : W (mCh f g a b c ρ) Q := by
  unfold mCh
  refine w_bind (w_fz (h.mono fun x h => w_bind (w_fz (h.mono fun y h => ?_))))
  obtain ⟨d, e, s, h1, h2, h3, h4, h5⟩ := h
  dsimp only
  rw [h1, h2]; dsimp only; rw [h3]
  cases s with
  | false => first | exact W.ok (h5 rfl) | exact h5 rfl
  | true =>
    refine w_bind (w_fz ((h4 rfl).mono fun z h => ?_))
    obtain ⟨e2, w, s2, k1, k2, k3, k4⟩ := h
    dsimp only
    rw [k1, k2]; dsimp only; rw [k3]; first | exact W.ok (k4) | exact k4
theorem w_and (h : W (ta ρ) fun x => (x.1 = true → W (tb x.2) Qb) ∧ (x.1 = false → Qb (false, x.2))) : W (mAnd ta tb ρ) Qb := by
  unfold mAnd
  refine w_bind (h.mono fun x h => ?_)
  by_cases q : x.1 = true
  · rw [if_pos q]; first | exact W.ok (h.1 q) | exact h.1 q
  · rw [if_neg q]; first | exact W.ok (h.2 (by simpa using q)) | exact h.2 (by simpa using q)
theorem w_or (h : W (ta ρ) fun x => (x.1 = true → Qb (true, x.2)) ∧ (x.1 = false → W (tb x.2) Qb)) : W (mOr ta tb ρ) Qb := by
  unfold mOr
  refine w_bind (h.mono fun x h => ?_)
  by_cases q : x.1 = true
  · rw [if_pos q]; first | exact W.ok (h.1 q) | exact h.1 q
  · rw [if_neg q]; first | exact W.ok (h.2 (by simpa using q)) | exact h.2 (by simpa using q)
theorem w_not (h : W (ta ρ) fun x => Qb (!x.1, x.2)) : W (mNot ta ρ) Qb := w_bindO h
theorem w_andV (h : W (mB a ρ) fun x => (x.1 = true → W (b x.2) Q) ∧ (x.1 = false → Q (.val (.bool false), x.2))) : W (mAndV a b ρ) Q := by
  unfold mAndV
  refine w_bind (h.mono fun x h => ?_)
  by_cases q : x.1 = true
  · rw [if_pos q]; first | exact W.ok (h.1 q) | exact h.1 q
  · rw [if_neg q]; first | exact W.ok (h.2 (by simpa using q)) | exact h.2 (by simpa using q)
theorem w_orV (h : W (mB a ρ) fun x => (x.1 = true → Q (.val (.bool true), x.2)) ∧ (x.1 = false → W (b x.2) Q)) : W (mOrV a b ρ) Q := by
  unfold mOrV
  refine w_bind (h.mono fun x h => ?_)
  by_cases q : x.1 = true
  · rw [if_pos q]; first | exact W.ok (h.1 q) | exact h.1 q
  · rw [if_neg q]; first | exact W.ok (h.2 (by simpa using q)) | exact h.2 (by simpa using q)
theorem w_notV (h : W (mB a ρ) fun x => Q (.val (.bool !x.1), x.2)) : W (mNotV a ρ) Q := w_bindO h
theorem w_ite (h : W (ta ρ) fun x => (x.1 = true → W (a x.2) Q) ∧ (x.1 = false → W (b x.2) Q)) : W (mIte ta a b ρ) Q := by
  unfold mIte
  refine w_bind (h.mono fun x h => ?_)
  by_cases q : x.1 = true
  · rw [if_pos q]; first | exact W.ok (h.1 q) | exact h.1 q
  · rw [if_neg q]; first | exact W.ok (h.2 (by simpa using q)) | exact h.2 (by simpa using q)
theorem w_anil (h : Qa ([], ρ)) : W (aNil ρ) Qa := .ok h
theorem w_acons (h : W (a ρ) fun x => W (as x.2) fun y => Qa (fz x.1 :: y.1, y.2)) : W (aCons a as ρ) Qa :=
  w_bind (w_fz (h.mono fun x h => w_bindO h))
theorem w_n {f : List D → Option Sl} (h : W (as ρ) fun x => ∃ ds s, rdvs x.2 x.1 = some ds ∧ f ds = some s ∧ Q (s.rv, x.2)) : W (mN f as ρ) Q := by
  unfold mN
  refine w_bind (h.mono fun x h => ?_)
  obtain ⟨ds, s, h1, h2, h3⟩ := h
  rw [h1]; dsimp only; rw [h2]; first | exact W.ok (h3) | exact h3
theorem w_lst (h : W (as ρ) fun x => ∃ ds, mTup.vals x.1 = some ds ∧ ds.length ≤ 1000000 ∧ Q (.own (.list ds), x.2)) : W (mLst as ρ) Q := by
  unfold mLst
  refine w_bind (h.mono fun x h => ?_)
  obtain ⟨ds, h1, h2, h3⟩ := h
  rw [h1]; dsimp only; rw [if_pos (Nat.le_trans h2 size_big)]; first | exact W.ok (h3) | exact h3
theorem w_tup (h : W (as ρ) fun x => ∃ ds, mTup.vals x.1 = some ds ∧ ds.length ≤ 1000000 ∧ Q (.val (.tuple ds), x.2)) : W (mTup as ρ) Q := by
  unfold mTup
  refine w_bind (h.mono fun x h => ?_)
  obtain ⟨ds, h1, h2, h3⟩ := h
  rw [h1]; dsimp only; rw [if_pos (Nat.le_trans h2 size_big)]; first | exact W.ok (h3) | exact h3
def noRef : Rv → Bool
  | .ref _ => false
  | _ => true
theorem w_fn {mf : Mf} {dds : List D} (h : W (as ρ) fun x => ndR (x.1 ++ dds.map Rv.val) = true ∧ W (mf ((x.1 ++ dds.map Rv.val).map (argOf x.2))) fun y => noRef y.1 = true ∧ Q (y.1, wb x.2 (x.1 ++ dds.map Rv.val) y.2)) : W (mFn mf dds as ρ) Q := by
  unfold mFn
  refine w_bind (h.mono fun x h => ?_)
  obtain ⟨h1, h2⟩ := h
  unfold callF
  rw [if_pos h1]
  obtain ⟨y, e, h3, h4⟩ := h2.ex
  rw [e]
  obtain ⟨r, ρ'⟩ := y
  cases r with
  | ref i => cases h3
  | val d => first | exact W.ok (h4) | exact h4
  | own d => first | exact W.ok (h4) | exact h4
theorem w_run {nl : Nat} {mb : EV → Out (Fl × EV)} {vs : EV} (hl : vs.length = np) (h : W (mb (vs ++ List.replicate (nl - np) none)) fun x => match x.1 with
    | .ret r => Q (r, outE vs x.2)
    | .next => Q (.val .none, outE vs x.2)
    | _ => False) : W (runF np nl mb vs) Q := by
  unfold runF
  rw [if_pos hl]
  obtain ⟨⟨f, ρ'⟩, e, h3⟩ := h.ex
  rw [e]
  cases f with
  | ret r => exact .ok h3
  | next => exact .ok h3
  | brk => exact False.elim h3
  | cont => exact False.elim h3
theorem w_next (h : Qs (.next, ρ)) : W (sNext ρ) Qs := .ok h
theorem w_brk (h : Qs (.brk, ρ)) : W (sBrk ρ) Qs := .ok h
theorem w_cont (h : Qs (.cont, ρ)) : W (sCont ρ) Qs := .ok h
theorem w_seq (h : W (sa ρ) fun x => match x.1 with
    | .next => W (sb x.2) Qs
    | f => Qs (f, x.2)) : W (sSeq sa sb ρ) Qs := by
  unfold sSeq
  refine w_bind (h.mono fun x h => ?_)
  obtain ⟨f, ρ'⟩ := x
  cases f <;> first | exact W.ok (h) | exact h
theorem w_if (h : W (ta ρ) fun x => (x.1 = true → W (sa x.2) Qs) ∧ (x.1 = false → W (sb x.2) Qs)) : W (sIf ta sa sb ρ) Qs := by
  unfold sIf
  refine w_bind (h.mono fun x h => ?_)
  by_cases q : x.1 = true
  · rw [if_pos q]; first | exact W.ok (h.1 q) | exact h.1 q
  · rw [if_neg q]; first | exact W.ok (h.2 (by simpa using q)) | exact h.2 (by simpa using q)
theorem w_expr (h : W (a ρ) fun x => Qs (.next, x.2)) : W (sExpr a ρ) Qs := w_bindO h
theorem w_ret (h : W (a ρ) fun x => match x.1 with
    | .ref i => ¬ i < np ∧ ∃ d, x.2[i]? = some (some (.own d)) ∧ Qs (.ret (.own d), x.2)
    | r => Qs (.ret r, x.2)) : W (sRet np a ρ) Qs := by
  unfold sRet
  refine w_bind (h.mono fun x h => ?_)
  obtain ⟨r, ρ'⟩ := x
  cases r with
  | val d => first | exact W.ok (h) | exact h
  | own d => first | exact W.ok (h) | exact h
  | ref i =>
    obtain ⟨h1, d, h2, h3⟩ := h
    dsimp only
    rw [if_neg h1, h2]; first | exact W.ok (h3) | exact h3
theorem w_setV (h : W (a ρ) fun x => ∃ d, fz x.1 = .val d ∧ okSet np i x.2 = true ∧ Qs (.next, x.2.set i (some (.val d)))) : W (sSetV np i a ρ) Qs := by
  unfold sSetV
  refine w_bind (w_fz (h.mono fun x h => ?_))
  obtain ⟨d, h1, h2, h3⟩ := h
  dsimp only
  rw [h1]; dsimp only; rw [if_pos h2]; first | exact W.ok (h3) | exact h3
theorem w_setO (h : W (a ρ) fun x => ∃ d, x.1 = .own d ∧ okSet np i x.2 = true ∧ Qs (.next, x.2.set i (some (.own d)))) : W (sSetO np i a ρ) Qs := by
  unfold sSetO
  refine w_bind (h.mono fun x h => ?_)
  obtain ⟨d, h1, h2, h3⟩ := h
  rw [h1]; dsimp only; rw [if_pos h2]; first | exact W.ok (h3) | exact h3
theorem w_par2 {j : Nat} {oi oj : Bool} (h : W (fzB oi (a ρ)) fun x => W (fzB oj (b x.2)) fun y => ∃ ρ1 ρ2, setR np i x.1 y.2 = some ρ1 ∧ setR np j y.1 ρ1 = some ρ2 ∧ Qs (.next, ρ2)) : W (sPar2 np i oi j oj a b ρ) Qs := by
  unfold sPar2
  refine w_bind (h.mono fun x h => w_bind (h.mono fun y h => ?_))
  obtain ⟨r1, r2, h1, h2, h3⟩ := h
  rw [h1, Option.bind_some, h2]; first | exact W.ok (h3) | exact h3
theorem w_fzF {o : Out (Rv × EV)} (h : W o fun x => Q (fz x.1, x.2)) : W (fzB false o) Q := by
  unfold fzB; rw [if_neg (by decide)]; first | exact W.ok (w_fz h) | exact w_fz h
theorem w_fzT {o : Out (Rv × EV)} (h : W o Q) : W (fzB true o) Q := by
  unfold fzB; rw [if_pos rfl]; first | exact W.ok (h) | exact h
theorem w_sub {k v : EV → Out (Rv × EV)} (h : W (v ρ) fun y => ∃ dv, fz y.1 = .val dv ∧ (∃ d0, ownAt y.2 i = some d0) ∧ W (k y.2) fun z => ∃ dk d d', fz z.1 = .val dk ∧ ownAt z.2 i = some d ∧ setL d dk dv = some d' ∧ Qs (.next, z.2.set i (some (.own d')))) : W (sSub i k v ρ) Qs := by
  unfold sSub
  refine w_bind (w_fz (h.mono fun y h => ?_))
  obtain ⟨dv, h1, ⟨d0, h2⟩, h3⟩ := h
  dsimp only
  rw [h1]; dsimp only; rw [h2]
  refine w_bind (w_fz (h3.mono fun z h => ?_))
  obtain ⟨dk, d, d', k1, k2, k3, k4⟩ := h
  dsimp only
  rw [k1]; dsimp only; rw [k2]; dsimp only; rw [k3]; first | exact W.ok (k4) | exact k4
theorem w_subAdd {k v : EV → Out (Rv × EV)} (h0 : ∃ d0, ownAt ρ i = some d0) (h : W (k ρ) fun z => ∃ j xs n, fz z.1 = .val (.int j) ∧ ownAt z.2 i = some (.list xs) ∧ atI xs j = some (.int n) ∧ W (v z.2) fun y => ∃ c d d', fz y.1 = .val (.int c) ∧ ownAt y.2 i = some d ∧ setL d (.int j) (.int (n + c)) = some d' ∧ Qs (.next, y.2.set i (some (.own d')))) : W (sSubAdd i k v ρ) Qs := by
  obtain ⟨d0, h0⟩ := h0
  unfold sSubAdd
  rw [h0]
  refine w_bind (w_fz (h.mono fun z h => ?_))
  obtain ⟨j, xs, n, h1, h2, h3, h4⟩ := h
  dsimp only
  rw [h1]; dsimp only; rw [h2]; dsimp only; rw [h3]
  refine w_bind (w_fz (h4.mono fun y h => ?_))
  obtain ⟨c, d, d', k1, k2, k3, k4⟩ := h
  dsimp only
  rw [k1]; dsimp only; rw [k2]; dsimp only; rw [k3]; first | exact W.ok (k4) | exact k4
theorem w_iR1 (h : W (as ρ) fun x => ∃ n, x.1 = [.val (.int n)] ∧ -(2 ^ 62) ≤ n ∧ n < 2 ^ 62 ∧ Qi (rngD 0 n.toNat, x.2)) : W (iR1 as ρ) Qi := by
  unfold iR1
  refine w_bind (h.mono fun x h => ?_)
  obtain ⟨n, h1, h2, h3, h4⟩ := h
  rw [h1]; dsimp only; rw [if_pos ⟨h2, h3⟩]; first | exact W.ok (h4) | exact h4
theorem w_iQ (h : W (a ρ) fun x => (∃ ds, (fz x.1 = .val (.list ds) ∨ fz x.1 = .val (.tuple ds)) ∧ Qi (ds, x.2)) ∨ ∃ z, fz x.1 = .val (.str z) ∧ Qi (z.cps.toList.map fun c => .str ⟨#[c]⟩, x.2)) : W (iQ a ρ) Qi := by
  unfold iQ
  refine w_bind (w_fz (h.mono fun x h => ?_))
  rcases h with ⟨ds, h | h, q⟩ | ⟨z, h, q⟩ <;> (dsimp only; rw [h]; exact .ok q)
/-- a for by an invariant -/
theorem w_loop {g : Tgm} {body : EV → Out (Fl × EV)} (I : Nat → EV → Prop) : ∀ (ds : List D) (k : Nat) (ρ : EV), I k ρ →
    (∀ (j : Nat) (d : D) (ρ' : EV), ds[j]? = some d → I (k + j) ρ' → ∃ ρ1, g d ρ' = some ρ1 ∧ W (body ρ1) fun y => match y.1 with
      | .next => I (k + j + 1) y.2
      | .cont => I (k + j + 1) y.2
      | .brk => Qs (.next, y.2)
      | .ret r => Qs (.ret r, y.2)) →
    (∀ ρ', I (k + ds.length) ρ' → Qs (.next, ρ')) → W (loopG g body ds ρ) Qs
  | [], k, ρ, h0, _, h2 => .ok (h2 ρ h0)
  | d :: ds, k, ρ, h0, h1, h2 => by
    obtain ⟨ρ1, e, w⟩ := h1 0 d ρ rfl h0
    show W (match g d ρ with
      | none => .bad
      | some ρ1 => (body ρ1).bind fun x => match x.1 with
        | .next => loopG g body ds x.2
        | .cont => loopG g body ds x.2
        | .brk => .ok (.next, x.2)
        | .ret r => .ok (.ret r, x.2)) Qs
    rw [e]
    refine w_bind (w.mono fun x h => ?_)
    have go : I (k + 0 + 1) x.2 → W (loopG g body ds x.2) Qs := fun h => by
      refine w_loop I ds (k + 1) x.2 h (fun j d' ρ' q z => ?_) fun ρ' z => ?_
      · have := h1 (j + 1) d' ρ' q (by rw [show k + (j + 1) = k + 1 + j by omega]; exact z)
        rw [show k + (j + 1) = k + 1 + j by omega] at this
        first | exact W.ok (this) | exact this
      · refine h2 ρ' ?_
        rw [List.length_cons, show k + (ds.length + 1) = k + 1 + ds.length by omega]; first | exact W.ok (z) | exact z
    obtain ⟨f, ρ2⟩ := x
    cases f with
    | next => first | exact W.ok (go h) | exact go h
    | cont => first | exact W.ok (go h) | exact go h
    | brk => first | exact W.ok (h) | exact h
    | ret r => first | exact W.ok (h) | exact h
theorem w_for {it : EV → Out (List D × EV)} {g : Tgm} {body : EV → Out (Fl × EV)} (I : List D → Nat → EV → Prop) (h : W (it ρ) fun x => I x.1 0 x.2 ∧
    (∀ (j : Nat) (d : D) (ρ' : EV), x.1[j]? = some d → I x.1 j ρ' → ∃ ρ1, g d ρ' = some ρ1 ∧ W (body ρ1) fun y => match y.1 with
      | .next => I x.1 (j + 1) y.2
      | .cont => I x.1 (j + 1) y.2
      | .brk => Qs (.next, y.2)
      | .ret r => Qs (.ret r, y.2)) ∧
    (∀ ρ', I x.1 x.1.length ρ' → Qs (.next, ρ'))) : W (sFor it g body ρ) Qs := by
  unfold sFor
  refine w_bind (h.mono fun x h => ?_)
  refine w_loop (I x.1) x.1 0 x.2 h.1 (fun j d ρ' q z => ?_) fun ρ' z => h.2.2 ρ' (by rwa [Nat.zero_add] at z)
  rw [Nat.zero_add] at z ⊢
  first | exact W.ok (h.2.1 j d ρ' q z) | exact h.2.1 j d ρ' q z
/-- a comprehension by an invariant -/
theorem w_lcGo {g : Tgm} {vs : List Nat} {mt : EV → Out (Bool × EV)} {me : EV → Out (Rv × EV)} (I : Nat → List D → EV → Prop) : ∀ (ds : List D) (k : Nat) (acc : List D) (ρ : EV), I k acc ρ → acc.length + ds.length ≤ 1000000 →
    (∀ (j : Nat) (d : D) (acc' : List D) (ρ' : EV), ds[j]? = some d → I (k + j) acc' ρ' → ∃ ρ1, g d (wipeE ρ' vs) = some ρ1 ∧ W (mt ρ1) fun y => (y.1 = true → W (me y.2) fun z => ∃ w, fz z.1 = .val w ∧ I (k + j + 1) (acc' ++ [w]) (back ρ' vs z.2)) ∧ (y.1 = false → I (k + j + 1) acc' (back ρ' vs y.2))) →
    (∀ acc' ρ', I (k + ds.length) acc' ρ' → Q (.own (.list acc'), ρ')) → W (lcGo g vs mt me ds acc ρ) Q
  | [], k, acc, ρ, h0, _, _, h2 => .ok (h2 acc ρ h0)
  | d :: ds, k, acc, ρ, h0, hl, h1, h2 => by
    obtain ⟨ρ1, e, w⟩ := h1 0 d acc ρ rfl h0
    have go : ∀ acc2 ρ2, acc2.length ≤ acc.length + 1 → I (k + 0 + 1) acc2 ρ2 → W (lcGo g vs mt me ds acc2 ρ2) Q := fun acc2 ρ2 hh h => by
      refine w_lcGo I ds (k + 1) acc2 ρ2 h (by simp at hl; omega) (fun j d' acc' ρ' q z => ?_) fun acc' ρ' z => ?_
      · have := h1 (j + 1) d' acc' ρ' q (by rw [show k + (j + 1) = k + 1 + j by omega]; exact z)
        rw [show k + (j + 1) = k + 1 + j by omega] at this
        first | exact W.ok (this) | exact this
      · refine h2 acc' ρ' ?_
        rw [List.length_cons, show k + (ds.length + 1) = k + 1 + ds.length by omega]; first | exact W.ok (z) | exact z
    obtain ⟨⟨t, ρ2⟩, e2, w1, w2⟩ := w.ex
    unfold lcGo
    rw [e]; dsimp only; rw [e2]
    cases t with
    | false => first | exact W.ok (go acc _ (by omega) (w2 rfl)) | exact go acc _ (by omega) (w2 rfl)
    | true =>
      obtain ⟨⟨r, ρ3⟩, e3, w3, hw, hi⟩ := (w1 rfl).ex
      dsimp only at hw hi e3 ⊢
      rw [e3]; simp only [fzO]; rw [hw]; dsimp only
      rw [if_pos (by have := size_big; simp at hl; omega)]
      first | exact W.ok (go _ _ (by simp) hi) | exact go _ _ (by simp) hi
theorem w_lc {it : EV → Out (List D × EV)} {g : Tgm} {vs : List Nat} {mt : EV → Out (Bool × EV)} {me : EV → Out (Rv × EV)} (I : List D → Nat → List D → EV → Prop) (h : W (it ρ) fun x => I x.1 0 [] x.2 ∧ x.1.length ≤ 1000000 ∧
    (∀ (j : Nat) (d : D) (acc' : List D) (ρ' : EV), x.1[j]? = some d → I x.1 j acc' ρ' → ∃ ρ1, g d (wipeE ρ' vs) = some ρ1 ∧ W (mt ρ1) fun y => (y.1 = true → W (me y.2) fun z => ∃ w, fz z.1 = .val w ∧ I x.1 (j + 1) (acc' ++ [w]) (back ρ' vs z.2)) ∧ (y.1 = false → I x.1 (j + 1) acc' (back ρ' vs y.2))) ∧
    (∀ acc' ρ', I x.1 x.1.length acc' ρ' → Q (.own (.list acc'), ρ'))) : W (mLc it g vs mt me ρ) Q := by
  unfold mLc
  refine w_bind (h.mono fun x h => ?_)
  refine w_lcGo (I x.1) x.1 0 [] x.2 h.1 (by simpa using h.2.1) (fun j d acc' ρ' q z => ?_) fun acc' ρ' z => h.2.2.2 acc' ρ' (by rwa [Nat.zero_add] at z)
  rw [Nat.zero_add] at z ⊢
  first | exact W.ok (h.2.2.1 j d acc' ρ' q z) | exact h.2.2.1 j d acc' ρ' q z
/-- a comprehension that draws nothing -/
theorem w_lcP {it : EV → Out (List D × EV)} {g : Tgm} {vs : List Nat} {mt : EV → Out (Bool × EV)} {me : EV → Out (Rv × EV)} (t : D → Bool) (f : D → D) (h : W (it ρ) fun x => x.1.length ≤ 1000000 ∧ (∀ d ∈ x.1, ∃ ρ1, g d (wipeE x.2 vs) = some ρ1 ∧ W (mt ρ1) fun y => y.1 = t d ∧ (t d = true → W (me y.2) fun z => fz z.1 = .val (f d) ∧ back x.2 vs z.2 = x.2) ∧ (t d = false → back x.2 vs y.2 = x.2)) ∧
    Q (.own (.list ((x.1.filter t).map f)), x.2)) : W (mLc it g vs mt me ρ) Q := by
  obtain ⟨⟨ds, ρ0⟩, e, hl, hb, hq⟩ := h.ex
  refine w_lc (fun ds' j acc ρ' => ρ' = ρ0 ∧ acc = ((ds'.take j).filter t).map f) (.of e ⟨⟨rfl, by simp⟩, hl, fun j d acc ρ' hd hi => ?_, fun acc ρ' hi => ?_⟩)
  · obtain ⟨rfl, rfl⟩ := hi
    obtain ⟨ρ1, e1, w⟩ := hb d (List.mem_of_getElem? hd)
    have et : ds.take (j + 1) = ds.take j ++ [d] := by rw [List.take_succ, hd]; rfl
    refine ⟨ρ1, e1, w.mono fun y hy => ?_⟩
    obtain ⟨h1, h2, h3⟩ := hy
    refine ⟨fun q => ?_, fun q => ?_⟩
    · rw [h1] at q
      refine (h2 q).mono fun z hz => ⟨_, hz.1, hz.2, ?_⟩
      rw [et, List.filter_append, List.map_append]
      simp [q]
    · rw [h1] at q
      refine ⟨h3 q, ?_⟩
      rw [et, List.filter_append, List.map_append]
      simp [q]
  · obtain ⟨rfl, rfl⟩ := hi
    simp only [List.take_length]
    first | exact W.ok (hq) | exact hq
theorem w_m {T : String} {f : D → List D → Option Sl} (h : W (a ρ) fun x => ∃ d0, rdv x.2 (fz x.1) = some d0 ∧ tyB T d0 = true ∧ W (as x.2) fun y => ∃ d ds s, rdv y.2 (fz x.1) = some d ∧ rdvs y.2 y.1 = some ds ∧ f d ds = some s ∧ Q (s.rv, y.2)) : W (mM T f a as ρ) Q := by
  unfold mM
  refine w_bind (w_fz (h.mono fun x h => ?_))
  obtain ⟨d0, h1, h2, h3⟩ := h
  dsimp only
  rw [h1]; dsimp only; rw [if_pos h2]
  refine w_bind (h3.mono fun y h => ?_)
  obtain ⟨d, ds, s, k1, k2, k3, k4⟩ := h
  rw [k1, k2]; dsimp only; rw [k3]; first | exact W.ok (k4) | exact k4
theorem w_isi {T : Ty} (h : W (a ρ) fun x => ∃ d, rdv x.2 (fz x.1) = some d ∧ isObj d = false ∧ Q (.val (.bool (isiB T d)), x.2)) : W (mIsi T a ρ) Q := by
  unfold mIsi
  refine w_m1 (h.mono fun x h => ?_)
  obtain ⟨d, h1, h2, h3⟩ := h
  refine ⟨d, .val (.bool (isiB T d)), h1, ?_, h3⟩
  rw [if_neg (by rw [h2]; decide)]
theorem w_sl {lo hi : EV → Out (Option Int × EV)} (h : W (a ρ) fun x => W (lo x.2) fun l => W (hi l.2) fun h => ∃ d s, rdv h.2 (fz x.1) = some d ∧ slD d l.1 h.1 = some s ∧ Q (s.rv, h.2)) : W (mSl a lo hi ρ) Q := by
  unfold mSl
  refine w_bind (w_fz (h.mono fun x h => w_bind (h.mono fun l h => w_bind (h.mono fun y h => ?_))))
  obtain ⟨d, s, h1, h2, h3⟩ := h
  dsimp only
  rw [h1]; dsimp only; rw [h2]; first | exact W.ok (h3) | exact h3
theorem w_pNo {Qp : Option Int × EV → Prop} (h : Qp (none, ρ)) : W (pNo ρ) Qp := .ok h
theorem w_pI {Qp : Option Int × EV → Prop} (h : W (a ρ) fun x => ∃ i, fz x.1 = .val (.int i) ∧ Qp (some i, x.2)) : W (pI a ρ) Qp := by
  unfold pI
  refine w_bind (w_fz (h.mono fun x h => ?_))
  obtain ⟨i, h1, h2⟩ := h
  dsimp only
  rw [h1]; first | exact W.ok (h2) | exact h2
theorem w_disp {ms : List (Mx × Mx)} (h : W (dPairs ms ρ) fun x => ∃ kds, keysD x.1 = some kds ∧ kds.length ≤ 15 ∧ Q (.own (.dict (encK (mergeA [] kds))), x.2)) : W (mDisp ms ρ) Q := by
  unfold mDisp
  refine w_bind (h.mono fun x h => ?_)
  obtain ⟨kds, h1, h2, h3⟩ := h
  rw [h1]; dsimp only; rw [if_pos h2]; first | exact W.ok (h3) | exact h3
theorem w_dnil {Qp : List (D × D) × EV → Prop} (h : Qp ([], ρ)) : W (dPairs [] ρ) Qp := .ok h
theorem w_dcons {k v : Mx} {r : List (Mx × Mx)} {Qp : List (D × D) × EV → Prop} (h : W (k ρ) fun x => ∃ dk, fz x.1 = .val dk ∧ W (v x.2) fun y => ∃ dv, fz y.1 = .val dv ∧ W (dPairs r y.2) fun z => Qp ((dk, dv) :: z.1, z.2)) : W (dPairs ((k, v) :: r) ρ) Qp := by
  unfold dPairs
  refine w_bind (w_fz (h.mono fun x h => ?_))
  obtain ⟨dk, h1, h2⟩ := h
  dsimp only
  rw [h1]
  refine w_bind (w_fz (h2.mono fun y h => ?_))
  obtain ⟨dv, h1, h2⟩ := h
  dsimp only
  rw [h1]
  exact w_bindO h2
theorem w_sTup {g : Tgm} (h : W (a ρ) fun x => ∃ d ρ', fz x.1 = .val d ∧ g d x.2 = some ρ' ∧ Qs (.next, ρ')) : W (sTup g a ρ) Qs := by
  unfold sTup
  refine w_bind (w_fz (h.mono fun x h => ?_))
  obtain ⟨d, ρ', h1, h2, h3⟩ := h
  dsimp only
  rw [h1]; dsimp only; rw [h2]; first | exact W.ok (h3) | exact h3
theorem w_iR2 (h : W (as ρ) fun x => ∃ m n, x.1 = [.val (.int m), .val (.int n)] ∧ (-(2 ^ 62) ≤ m ∧ m < 2 ^ 62 ∧ -(2 ^ 62) ≤ n ∧ n < 2 ^ 62) ∧ Qi (rngD m (n - m).toNat, x.2)) : W (iR2 as ρ) Qi := by
  unfold iR2
  refine w_bind (h.mono fun x h => ?_)
  obtain ⟨m, n, h1, h2, h3⟩ := h
  rw [h1]; dsimp only; rw [if_pos h2]; first | exact W.ok (h3) | exact h3
theorem w_yes (h : Qb (true, ρ)) : W (mYes ρ) Qb := .ok h
end
/-! ### the bag of the laws' drawn numbers -/
def bagD (a b c : Int) (cs : List Int) : D := .list [.int a, .int b, .int c, .list (cs.map PyData.int)]
/-- a bag drawn from at most n times -/
def Bg (n : Nat) (d : D) : Prop := ∃ a b c cs, d = bagD a b c cs ∧ 0 ≤ a ∧ 0 ≤ b ∧ b < 2147483647 ∧ 0 ≤ c ∧ c ≤ n ∧ ∀ x ∈ cs, (0 : Int) ≤ x
theorem Bg.mono {n m : Nat} {d : D} (h : Bg n d) (q : n ≤ m) : Bg m d := by
  obtain ⟨a, b, c, cs, e, h1, h2, h3, h4, h5, h6⟩ := h
  exact ⟨a, b, c, cs, e, h1, h2, h3, h4, by omega, h6⟩
def b_take : EV → Out (Fl × EV) :=
  (sSeq (sIf (mB (m2 eqD (m2 ixD (mVar 0) (mC (.int 0))) (mC (.int 0)))) (sSeq (sSetV 2 2 (mC (.int 0)))
    (sSeq (sIf (mB (m2 ltD (m2 ixD (mVar 0) (mC (.int 2))) (mN lenD (aCons (m2 ixD (mVar 0) (mC (.int 3))) aNil)))) (sSetV 2 2 (m2 ixD (m2 ixD (mVar 0) (mC (.int 3))) (m2 ixD (mVar 0) (mC (.int 2))))) sNext)
    (sSeq (sSubAdd 0 (mC (.int 2)) (mC (.int 1)))
    (sSeq (sIf (mB (m2 geD (mVar 2) (mC (.int 1000000000000000000)))) (sSub 0 (mC (.int 0)) (mVar 2)) sNext)
    (sSub 0 (mC (.int 1)) (m2 modD (m2 addD (m2 addD (m2 mulA (m2 ixD (mVar 0) (mC (.int 1))) (mC (.int 48271))) (m2 modD (mVar 2) (mC (.int 2147483647)))) (m2 mulA (mC (.int 7919)) (m2 ixD (mVar 0) (mC (.int 2))))) (mC (.int 2147483647)))))))) sNext)
    (sSeq (sIf (mB (m2 gtD (m2 ixD (mVar 0) (mC (.int 0))) (mC (.int 0)))) (sSeq (sSetV 2 3 (m2 modD (m2 ixD (mVar 0) (mC (.int 0))) (mVar 1)))
    (sSeq (sSub 0 (mC (.int 0)) (m2 divD (m2 ixD (mVar 0) (mC (.int 0))) (mVar 1)))
    (sRet 2 (mVar 3)))) sNext)
    (sSeq (sSetV 2 4 (m2 modD (m2 mulA (m2 addD (m2 ixD (mVar 0) (mC (.int 1))) (mC (.int 1))) (mC (.int 39373))) (mC (.int 1000000007))))
    (sSeq (sSetV 2 5 (m2 modD (m2 mulA (m2 modD (m2 mulA (mVar 4) (mVar 4)) (mC (.int 998244353))) (mC (.int 30011))) (mC (.int 998244353))))
    (sSeq (sIf (mB (m2 gtD (mVar 1) (mC (.int 1000000)))) (sRet 2 (m2 modD (m2 addD (m2 mulA (mVar 5) (mC (.int 1000000007))) (mVar 4)) (mVar 1))) sNext)
    (sRet 2 (m2 modD (m2 divD (mVar 5) (mC (.int 7))) (mVar 1))))))))
def m_take : Mf := runF 2 6 b_take
end Fr
namespace Fr
open PySem L2
theorem take_ok {n : Nat} {d : D} {many : Int} {Q : Rv × EV → Prop} (h : Bg n d) (hn : n ≤ 1000000) (h0 : 0 < many) (h1 : many < 2 ^ 100) (q : ∀ v d', 0 ≤ v → v < many → Bg (n + 1) d' → Q (.val (.int v), [some (.own d'), some (.val (.int many))])) : W (m_take [some (.own d), some (.val (.int many))]) Q := by
  obtain ⟨a, b, c, cs, rfl, ha, hb, hb2, hc, hc2, hcs⟩ := h
  unfold m_take
  refine w_run rfl ?_
  unfold b_take bagD
  dsimp only [List.replicate, List.cons_append, List.nil_append, Nat.reduceSub]
  refine w_seq ?_
  refine W.mono (Q := fun x => x.1 = .next ∧ ∃ (a b c : Int) (t : Option Sl), x.2 = [some (.own (.list [.int a, .int b, .int c, .list (cs.map PyData.int)])), some (.val (.int many)), t, none, none, none] ∧ 0 ≤ a ∧ 0 ≤ b ∧ b < 2147483647 ∧ 0 ≤ c ∧ c ≤ (n + 1 : Nat)) ?_ ?_
  · repeat ((first | (with_reducible refine w_varE ?_; refine ⟨_, rfl, ?_⟩) | (with_reducible refine w_varF ?_; refine ⟨⟨_, rfl⟩, ?_⟩) | (with_reducible refine w_seq ?_) | (with_reducible refine w_if ?_) | (with_reducible refine w_and ?_) | (with_reducible refine w_or ?_) | (with_reducible refine w_not ?_) | (with_reducible refine w_ite ?_) | (with_reducible refine w_expr ?_) | (with_reducible refine w_ret ?_) | (with_reducible refine w_setV ?_) | (with_reducible refine w_setO ?_) | (with_reducible refine w_m2 ?_) | (with_reducible refine w_m1 ?_) | (with_reducible refine w_mB ?_) | (with_reducible refine w_mCh ?_) | (with_reducible refine w_andV ?_) | (with_reducible refine w_orV ?_) | (with_reducible refine w_notV ?_) | (with_reducible refine w_c ?_) | (with_reducible refine w_acons ?_) | (with_reducible refine w_anil ?_) | (with_reducible refine w_n ?_) | (with_reducible refine w_lst ?_) | (with_reducible refine w_tup ?_) | (with_reducible refine w_next ?_) | (with_reducible refine w_brk ?_) | (with_reducible refine w_cont ?_) | (with_reducible refine w_iR1 ?_) | (with_reducible refine w_iR2 ?_) | (with_reducible refine w_iQ ?_) | (with_reducible refine w_par2 ?_) | (with_reducible refine w_fzF ?_) | (with_reducible refine w_fzT ?_) | (with_reducible refine w_sub ?_) | (with_reducible refine w_yes ?_) | (with_reducible refine w_m ?_) | (with_reducible refine w_isi ?_) | (with_reducible refine w_sl ?_) | (with_reducible refine w_pNo ?_) | (with_reducible refine w_pI ?_) | (with_reducible refine w_disp ?_) | (with_reducible refine w_dnil ?_) | (with_reducible refine w_dcons ?_) | (with_reducible refine w_sTup ?_) | (with_reducible refine w_subAdd ⟨_, rfl⟩ ?_) | ((fail_if_success (with_reducible refine W.idt ?_)); first | (refine ⟨_, _, _, rfl, rfl, (by first | exact eqD_int _ _ | exact neD_int _ _ | exact addD_int _ _ | exact subD_int _ _ | exact eqD_str _ _ | exact neD_str _ _ | (rw [ixD_list]; rfl) | (rw [ixD_tuple]; rfl) | exact powD_int _ _ (by decide) | exact modD_int _ _ (by omega) | exact mulA_int _ _ (cmul_small (by constructor <;> omega) (by constructor <;> omega)) | exact divD_int _ _ (cdiv_small (by constructor <;> omega)) | exact (rfl : ltD (.int _) (.int _) = _) | exact (rfl : leD (.int _) (.int _) = _) | exact (rfl : gtD (.int _) (.int _) = _) | exact (rfl : geD (.int _) (.int _) = _)), ?_⟩) | (refine ⟨_, _, _, rfl, rfl, rfl, ?_⟩) | (refine ⟨_, rfl, ⟨_, rfl⟩, ?_⟩) | (refine ⟨_, rfl, rfl, ?_⟩) | (refine ⟨_, rfl, (by assumption : Fr.isObj _ = false), ?_⟩) | (refine ⟨_, _, rfl, (by assumption : (_ : Option Sl) = some _), ?_⟩) | (refine ⟨_, _, _, rfl, rfl, (by assumption : (_ : Option Sl) = some _), ?_⟩) | (refine ⟨_, _, rfl, rfl, ?_⟩) | (refine ⟨_, rfl, Nat.le_of_ble_eq_true rfl, ?_⟩) | (refine ⟨_, rfl, (by omega), (by omega), ?_⟩) | (refine ⟨_, _, rfl, (by omega), ?_⟩) | (refine ⟨_, rfl, ?_⟩) | (refine .inl ⟨_, .inl rfl, ?_⟩) | (refine .inl ⟨_, .inr rfl, ?_⟩) | (refine .inr ⟨_, rfl, ?_⟩))); try dsimp only [List.set_cons_zero, List.set_cons_succ])
    refine ⟨fun hz => ?_, fun _ => w_next ⟨rfl, a, b, c, _, rfl, ha, hb, hb2, hc, by omega⟩⟩
    refine w_seq ?_
    refine w_setV ?_
    refine w_c ?_
    dsimp only
    refine ⟨_, rfl, rfl, ?_⟩
    dsimp only [List.set_cons_succ, List.set_cons_zero]
    refine w_seq ?_
    refine W.mono (Q := fun x => x.1 = .next ∧ ∃ t : Int, x.2 = [some (.own (.list [.int a, .int b, .int c, .list (cs.map PyData.int)])), some (.val (.int many)), some (.val (.int t)), none, none, none] ∧ 0 ≤ t) ?_ ?_
    · repeat ((first | (with_reducible refine w_varE ?_; refine ⟨_, rfl, ?_⟩) | (with_reducible refine w_varF ?_; refine ⟨⟨_, rfl⟩, ?_⟩) | (with_reducible refine w_seq ?_) | (with_reducible refine w_if ?_) | (with_reducible refine w_and ?_) | (with_reducible refine w_or ?_) | (with_reducible refine w_not ?_) | (with_reducible refine w_ite ?_) | (with_reducible refine w_expr ?_) | (with_reducible refine w_ret ?_) | (with_reducible refine w_setV ?_) | (with_reducible refine w_setO ?_) | (with_reducible refine w_m2 ?_) | (with_reducible refine w_m1 ?_) | (with_reducible refine w_mB ?_) | (with_reducible refine w_mCh ?_) | (with_reducible refine w_andV ?_) | (with_reducible refine w_orV ?_) | (with_reducible refine w_notV ?_) | (with_reducible refine w_c ?_) | (with_reducible refine w_acons ?_) | (with_reducible refine w_anil ?_) | (with_reducible refine w_n ?_) | (with_reducible refine w_lst ?_) | (with_reducible refine w_tup ?_) | (with_reducible refine w_next ?_) | (with_reducible refine w_brk ?_) | (with_reducible refine w_cont ?_) | (with_reducible refine w_iR1 ?_) | (with_reducible refine w_iR2 ?_) | (with_reducible refine w_iQ ?_) | (with_reducible refine w_par2 ?_) | (with_reducible refine w_fzF ?_) | (with_reducible refine w_fzT ?_) | (with_reducible refine w_sub ?_) | (with_reducible refine w_yes ?_) | (with_reducible refine w_m ?_) | (with_reducible refine w_isi ?_) | (with_reducible refine w_sl ?_) | (with_reducible refine w_pNo ?_) | (with_reducible refine w_pI ?_) | (with_reducible refine w_disp ?_) | (with_reducible refine w_dnil ?_) | (with_reducible refine w_dcons ?_) | (with_reducible refine w_sTup ?_) | (with_reducible refine w_subAdd ⟨_, rfl⟩ ?_) | ((fail_if_success (with_reducible refine W.idt ?_)); first | (refine ⟨_, _, _, rfl, rfl, (by first | exact eqD_int _ _ | exact neD_int _ _ | exact addD_int _ _ | exact subD_int _ _ | exact eqD_str _ _ | exact neD_str _ _ | (rw [ixD_list]; rfl) | (rw [ixD_tuple]; rfl) | exact powD_int _ _ (by decide) | exact modD_int _ _ (by omega) | exact mulA_int _ _ (cmul_small (by constructor <;> omega) (by constructor <;> omega)) | exact divD_int _ _ (cdiv_small (by constructor <;> omega)) | exact (rfl : ltD (.int _) (.int _) = _) | exact (rfl : leD (.int _) (.int _) = _) | exact (rfl : gtD (.int _) (.int _) = _) | exact (rfl : geD (.int _) (.int _) = _)), ?_⟩) | (refine ⟨_, _, _, rfl, rfl, rfl, ?_⟩) | (refine ⟨_, rfl, ⟨_, rfl⟩, ?_⟩) | (refine ⟨_, rfl, rfl, ?_⟩) | (refine ⟨_, rfl, (by assumption : Fr.isObj _ = false), ?_⟩) | (refine ⟨_, _, rfl, (by assumption : (_ : Option Sl) = some _), ?_⟩) | (refine ⟨_, _, _, rfl, rfl, (by assumption : (_ : Option Sl) = some _), ?_⟩) | (refine ⟨_, _, rfl, rfl, ?_⟩) | (refine ⟨_, rfl, Nat.le_of_ble_eq_true rfl, ?_⟩) | (refine ⟨_, rfl, (by omega), (by omega), ?_⟩) | (refine ⟨_, _, rfl, (by omega), ?_⟩) | (refine ⟨_, rfl, ?_⟩) | (refine .inl ⟨_, .inl rfl, ?_⟩) | (refine .inl ⟨_, .inr rfl, ?_⟩) | (refine .inr ⟨_, rfl, ?_⟩))); try dsimp only [List.set_cons_zero, List.set_cons_succ])
      refine ⟨fun hl => ?_, fun hl => w_next ⟨rfl, 0, rfl, by omega⟩⟩
      have hl := of_decide_eq_true hl
      obtain ⟨x, e1, e2⟩ := atI_nat (xs := cs.map PyData.int) hc hl
      repeat ((first | (with_reducible refine w_varE ?_; refine ⟨_, rfl, ?_⟩) | (with_reducible refine w_varF ?_; refine ⟨⟨_, rfl⟩, ?_⟩) | (with_reducible refine w_seq ?_) | (with_reducible refine w_if ?_) | (with_reducible refine w_and ?_) | (with_reducible refine w_or ?_) | (with_reducible refine w_not ?_) | (with_reducible refine w_ite ?_) | (with_reducible refine w_expr ?_) | (with_reducible refine w_ret ?_) | (with_reducible refine w_setV ?_) | (with_reducible refine w_setO ?_) | (with_reducible refine w_m2 ?_) | (with_reducible refine w_m1 ?_) | (with_reducible refine w_mB ?_) | (with_reducible refine w_mCh ?_) | (with_reducible refine w_andV ?_) | (with_reducible refine w_orV ?_) | (with_reducible refine w_notV ?_) | (with_reducible refine w_c ?_) | (with_reducible refine w_acons ?_) | (with_reducible refine w_anil ?_) | (with_reducible refine w_n ?_) | (with_reducible refine w_lst ?_) | (with_reducible refine w_tup ?_) | (with_reducible refine w_next ?_) | (with_reducible refine w_brk ?_) | (with_reducible refine w_cont ?_) | (with_reducible refine w_iR1 ?_) | (with_reducible refine w_iR2 ?_) | (with_reducible refine w_iQ ?_) | (with_reducible refine w_par2 ?_) | (with_reducible refine w_fzF ?_) | (with_reducible refine w_fzT ?_) | (with_reducible refine w_sub ?_) | (with_reducible refine w_yes ?_) | (with_reducible refine w_m ?_) | (with_reducible refine w_isi ?_) | (with_reducible refine w_sl ?_) | (with_reducible refine w_pNo ?_) | (with_reducible refine w_pI ?_) | (with_reducible refine w_disp ?_) | (with_reducible refine w_dnil ?_) | (with_reducible refine w_dcons ?_) | (with_reducible refine w_sTup ?_) | (with_reducible refine w_subAdd ⟨_, rfl⟩ ?_) | ((fail_if_success (with_reducible refine W.idt ?_)); first | (refine ⟨_, _, _, rfl, rfl, (by first | exact eqD_int _ _ | exact neD_int _ _ | exact addD_int _ _ | exact subD_int _ _ | exact eqD_str _ _ | exact neD_str _ _ | (rw [ixD_list]; rfl) | (rw [ixD_tuple]; rfl) | exact powD_int _ _ (by decide) | exact modD_int _ _ (by omega) | exact mulA_int _ _ (cmul_small (by constructor <;> omega) (by constructor <;> omega)) | exact divD_int _ _ (cdiv_small (by constructor <;> omega)) | exact (rfl : ltD (.int _) (.int _) = _) | exact (rfl : leD (.int _) (.int _) = _) | exact (rfl : gtD (.int _) (.int _) = _) | exact (rfl : geD (.int _) (.int _) = _)), ?_⟩) | (refine ⟨_, _, _, rfl, rfl, rfl, ?_⟩) | (refine ⟨_, rfl, ⟨_, rfl⟩, ?_⟩) | (refine ⟨_, rfl, rfl, ?_⟩) | (refine ⟨_, rfl, (by assumption : Fr.isObj _ = false), ?_⟩) | (refine ⟨_, _, rfl, (by assumption : (_ : Option Sl) = some _), ?_⟩) | (refine ⟨_, _, _, rfl, rfl, (by assumption : (_ : Option Sl) = some _), ?_⟩) | (refine ⟨_, _, rfl, rfl, ?_⟩) | (refine ⟨_, rfl, Nat.le_of_ble_eq_true rfl, ?_⟩) | (refine ⟨_, rfl, (by omega), (by omega), ?_⟩) | (refine ⟨_, _, rfl, (by omega), ?_⟩) | (refine ⟨_, rfl, ?_⟩) | (refine .inl ⟨_, .inl rfl, ?_⟩) | (refine .inl ⟨_, .inr rfl, ?_⟩) | (refine .inr ⟨_, rfl, ?_⟩))); try dsimp only [List.set_cons_zero, List.set_cons_succ])
      refine ⟨_, _, _, rfl, rfl, (by rw [ixD_list, e1]; rfl), ?_⟩
      obtain ⟨y, hy, rfl⟩ := List.mem_map.mp e2
      exact ⟨_, rfl, rfl, rfl, y, rfl, hcs y hy⟩
    · rintro ⟨f, ρ⟩ ⟨rfl, t, rfl, ht⟩
      dsimp only
      repeat ((first | (with_reducible refine w_varE ?_; refine ⟨_, rfl, ?_⟩) | (with_reducible refine w_varF ?_; refine ⟨⟨_, rfl⟩, ?_⟩) | (with_reducible refine w_seq ?_) | (with_reducible refine w_if ?_) | (with_reducible refine w_and ?_) | (with_reducible refine w_or ?_) | (with_reducible refine w_not ?_) | (with_reducible refine w_ite ?_) | (with_reducible refine w_expr ?_) | (with_reducible refine w_ret ?_) | (with_reducible refine w_setV ?_) | (with_reducible refine w_setO ?_) | (with_reducible refine w_m2 ?_) | (with_reducible refine w_m1 ?_) | (with_reducible refine w_mB ?_) | (with_reducible refine w_mCh ?_) | (with_reducible refine w_andV ?_) | (with_reducible refine w_orV ?_) | (with_reducible refine w_notV ?_) | (with_reducible refine w_c ?_) | (with_reducible refine w_acons ?_) | (with_reducible refine w_anil ?_) | (with_reducible refine w_n ?_) | (with_reducible refine w_lst ?_) | (with_reducible refine w_tup ?_) | (with_reducible refine w_next ?_) | (with_reducible refine w_brk ?_) | (with_reducible refine w_cont ?_) | (with_reducible refine w_iR1 ?_) | (with_reducible refine w_iR2 ?_) | (with_reducible refine w_iQ ?_) | (with_reducible refine w_par2 ?_) | (with_reducible refine w_fzF ?_) | (with_reducible refine w_fzT ?_) | (with_reducible refine w_sub ?_) | (with_reducible refine w_yes ?_) | (with_reducible refine w_m ?_) | (with_reducible refine w_isi ?_) | (with_reducible refine w_sl ?_) | (with_reducible refine w_pNo ?_) | (with_reducible refine w_pI ?_) | (with_reducible refine w_disp ?_) | (with_reducible refine w_dnil ?_) | (with_reducible refine w_dcons ?_) | (with_reducible refine w_sTup ?_) | (with_reducible refine w_subAdd ⟨_, rfl⟩ ?_) | ((fail_if_success (with_reducible refine W.idt ?_)); first | (refine ⟨_, _, _, rfl, rfl, (by first | exact eqD_int _ _ | exact neD_int _ _ | exact addD_int _ _ | exact subD_int _ _ | exact eqD_str _ _ | exact neD_str _ _ | (rw [ixD_list]; rfl) | (rw [ixD_tuple]; rfl) | exact powD_int _ _ (by decide) | exact modD_int _ _ (by omega) | exact mulA_int _ _ (cmul_small (by constructor <;> omega) (by constructor <;> omega)) | exact divD_int _ _ (cdiv_small (by constructor <;> omega)) | exact (rfl : ltD (.int _) (.int _) = _) | exact (rfl : leD (.int _) (.int _) = _) | exact (rfl : gtD (.int _) (.int _) = _) | exact (rfl : geD (.int _) (.int _) = _)), ?_⟩) | (refine ⟨_, _, _, rfl, rfl, rfl, ?_⟩) | (refine ⟨_, rfl, ⟨_, rfl⟩, ?_⟩) | (refine ⟨_, rfl, rfl, ?_⟩) | (refine ⟨_, rfl, (by assumption : Fr.isObj _ = false), ?_⟩) | (refine ⟨_, _, rfl, (by assumption : (_ : Option Sl) = some _), ?_⟩) | (refine ⟨_, _, _, rfl, rfl, (by assumption : (_ : Option Sl) = some _), ?_⟩) | (refine ⟨_, _, rfl, rfl, ?_⟩) | (refine ⟨_, rfl, Nat.le_of_ble_eq_true rfl, ?_⟩) | (refine ⟨_, rfl, (by omega), (by omega), ?_⟩) | (refine ⟨_, _, rfl, (by omega), ?_⟩) | (refine ⟨_, rfl, ?_⟩) | (refine .inl ⟨_, .inl rfl, ?_⟩) | (refine .inl ⟨_, .inr rfl, ?_⟩) | (refine .inr ⟨_, rfl, ?_⟩))); try dsimp only [List.set_cons_zero, List.set_cons_succ])
      refine ⟨fun h5 => ?_, fun h5 => ?_⟩
      · repeat ((first | (with_reducible refine w_varE ?_; refine ⟨_, rfl, ?_⟩) | (with_reducible refine w_varF ?_; refine ⟨⟨_, rfl⟩, ?_⟩) | (with_reducible refine w_seq ?_) | (with_reducible refine w_if ?_) | (with_reducible refine w_and ?_) | (with_reducible refine w_or ?_) | (with_reducible refine w_not ?_) | (with_reducible refine w_ite ?_) | (with_reducible refine w_expr ?_) | (with_reducible refine w_ret ?_) | (with_reducible refine w_setV ?_) | (with_reducible refine w_setO ?_) | (with_reducible refine w_m2 ?_) | (with_reducible refine w_m1 ?_) | (with_reducible refine w_mB ?_) | (with_reducible refine w_mCh ?_) | (with_reducible refine w_andV ?_) | (with_reducible refine w_orV ?_) | (with_reducible refine w_notV ?_) | (with_reducible refine w_c ?_) | (with_reducible refine w_acons ?_) | (with_reducible refine w_anil ?_) | (with_reducible refine w_n ?_) | (with_reducible refine w_lst ?_) | (with_reducible refine w_tup ?_) | (with_reducible refine w_next ?_) | (with_reducible refine w_brk ?_) | (with_reducible refine w_cont ?_) | (with_reducible refine w_iR1 ?_) | (with_reducible refine w_iR2 ?_) | (with_reducible refine w_iQ ?_) | (with_reducible refine w_par2 ?_) | (with_reducible refine w_fzF ?_) | (with_reducible refine w_fzT ?_) | (with_reducible refine w_sub ?_) | (with_reducible refine w_yes ?_) | (with_reducible refine w_m ?_) | (with_reducible refine w_isi ?_) | (with_reducible refine w_sl ?_) | (with_reducible refine w_pNo ?_) | (with_reducible refine w_pI ?_) | (with_reducible refine w_disp ?_) | (with_reducible refine w_dnil ?_) | (with_reducible refine w_dcons ?_) | (with_reducible refine w_sTup ?_) | (with_reducible refine w_subAdd ⟨_, rfl⟩ ?_) | ((fail_if_success (with_reducible refine W.idt ?_)); first | (refine ⟨_, _, _, rfl, rfl, (by first | exact eqD_int _ _ | exact neD_int _ _ | exact addD_int _ _ | exact subD_int _ _ | exact eqD_str _ _ | exact neD_str _ _ | (rw [ixD_list]; rfl) | (rw [ixD_tuple]; rfl) | exact powD_int _ _ (by decide) | exact modD_int _ _ (by omega) | exact mulA_int _ _ (cmul_small (by constructor <;> omega) (by constructor <;> omega)) | exact divD_int _ _ (cdiv_small (by constructor <;> omega)) | exact (rfl : ltD (.int _) (.int _) = _) | exact (rfl : leD (.int _) (.int _) = _) | exact (rfl : gtD (.int _) (.int _) = _) | exact (rfl : geD (.int _) (.int _) = _)), ?_⟩) | (refine ⟨_, _, _, rfl, rfl, rfl, ?_⟩) | (refine ⟨_, rfl, ⟨_, rfl⟩, ?_⟩) | (refine ⟨_, rfl, rfl, ?_⟩) | (refine ⟨_, rfl, (by assumption : Fr.isObj _ = false), ?_⟩) | (refine ⟨_, _, rfl, (by assumption : (_ : Option Sl) = some _), ?_⟩) | (refine ⟨_, _, _, rfl, rfl, (by assumption : (_ : Option Sl) = some _), ?_⟩) | (refine ⟨_, _, rfl, rfl, ?_⟩) | (refine ⟨_, rfl, Nat.le_of_ble_eq_true rfl, ?_⟩) | (refine ⟨_, rfl, (by omega), (by omega), ?_⟩) | (refine ⟨_, _, rfl, (by omega), ?_⟩) | (refine ⟨_, rfl, ?_⟩) | (refine .inl ⟨_, .inl rfl, ?_⟩) | (refine .inl ⟨_, .inr rfl, ?_⟩) | (refine .inr ⟨_, rfl, ?_⟩))); try dsimp only [List.set_cons_zero, List.set_cons_succ])
        exact ⟨rfl, t, _, c + 1, _, rfl, ht, Int.emod_nonneg _ (by omega), Int.emod_lt_of_pos _ (by omega), by omega, by omega⟩
      · repeat ((first | (with_reducible refine w_varE ?_; refine ⟨_, rfl, ?_⟩) | (with_reducible refine w_varF ?_; refine ⟨⟨_, rfl⟩, ?_⟩) | (with_reducible refine w_seq ?_) | (with_reducible refine w_if ?_) | (with_reducible refine w_and ?_) | (with_reducible refine w_or ?_) | (with_reducible refine w_not ?_) | (with_reducible refine w_ite ?_) | (with_reducible refine w_expr ?_) | (with_reducible refine w_ret ?_) | (with_reducible refine w_setV ?_) | (with_reducible refine w_setO ?_) | (with_reducible refine w_m2 ?_) | (with_reducible refine w_m1 ?_) | (with_reducible refine w_mB ?_) | (with_reducible refine w_mCh ?_) | (with_reducible refine w_andV ?_) | (with_reducible refine w_orV ?_) | (with_reducible refine w_notV ?_) | (with_reducible refine w_c ?_) | (with_reducible refine w_acons ?_) | (with_reducible refine w_anil ?_) | (with_reducible refine w_n ?_) | (with_reducible refine w_lst ?_) | (with_reducible refine w_tup ?_) | (with_reducible refine w_next ?_) | (with_reducible refine w_brk ?_) | (with_reducible refine w_cont ?_) | (with_reducible refine w_iR1 ?_) | (with_reducible refine w_iR2 ?_) | (with_reducible refine w_iQ ?_) | (with_reducible refine w_par2 ?_) | (with_reducible refine w_fzF ?_) | (with_reducible refine w_fzT ?_) | (with_reducible refine w_sub ?_) | (with_reducible refine w_yes ?_) | (with_reducible refine w_m ?_) | (with_reducible refine w_isi ?_) | (with_reducible refine w_sl ?_) | (with_reducible refine w_pNo ?_) | (with_reducible refine w_pI ?_) | (with_reducible refine w_disp ?_) | (with_reducible refine w_dnil ?_) | (with_reducible refine w_dcons ?_) | (with_reducible refine w_sTup ?_) | (with_reducible refine w_subAdd ⟨_, rfl⟩ ?_) | ((fail_if_success (with_reducible refine W.idt ?_)); first | (refine ⟨_, _, _, rfl, rfl, (by first | exact eqD_int _ _ | exact neD_int _ _ | exact addD_int _ _ | exact subD_int _ _ | exact eqD_str _ _ | exact neD_str _ _ | (rw [ixD_list]; rfl) | (rw [ixD_tuple]; rfl) | exact powD_int _ _ (by decide) | exact modD_int _ _ (by omega) | exact mulA_int _ _ (cmul_small (by constructor <;> omega) (by constructor <;> omega)) | exact divD_int _ _ (cdiv_small (by constructor <;> omega)) | exact (rfl : ltD (.int _) (.int _) = _) | exact (rfl : leD (.int _) (.int _) = _) | exact (rfl : gtD (.int _) (.int _) = _) | exact (rfl : geD (.int _) (.int _) = _)), ?_⟩) | (refine ⟨_, _, _, rfl, rfl, rfl, ?_⟩) | (refine ⟨_, rfl, ⟨_, rfl⟩, ?_⟩) | (refine ⟨_, rfl, rfl, ?_⟩) | (refine ⟨_, rfl, (by assumption : Fr.isObj _ = false), ?_⟩) | (refine ⟨_, _, rfl, (by assumption : (_ : Option Sl) = some _), ?_⟩) | (refine ⟨_, _, _, rfl, rfl, (by assumption : (_ : Option Sl) = some _), ?_⟩) | (refine ⟨_, _, rfl, rfl, ?_⟩) | (refine ⟨_, rfl, Nat.le_of_ble_eq_true rfl, ?_⟩) | (refine ⟨_, rfl, (by omega), (by omega), ?_⟩) | (refine ⟨_, _, rfl, (by omega), ?_⟩) | (refine ⟨_, rfl, ?_⟩) | (refine .inl ⟨_, .inl rfl, ?_⟩) | (refine .inl ⟨_, .inr rfl, ?_⟩) | (refine .inr ⟨_, rfl, ?_⟩))); try dsimp only [List.set_cons_zero, List.set_cons_succ])
        exact ⟨rfl, a, _, c + 1, _, rfl, ha, Int.emod_nonneg _ (by omega), Int.emod_lt_of_pos _ (by omega), by omega, by omega⟩
  · rintro ⟨f, ρ⟩ ⟨rfl, a, b, c, t, rfl, ha, hb, hb2, hc, hc2⟩
    dsimp only
    repeat ((first | (with_reducible refine w_varE ?_; refine ⟨_, rfl, ?_⟩) | (with_reducible refine w_varF ?_; refine ⟨⟨_, rfl⟩, ?_⟩) | (with_reducible refine w_seq ?_) | (with_reducible refine w_if ?_) | (with_reducible refine w_and ?_) | (with_reducible refine w_or ?_) | (with_reducible refine w_not ?_) | (with_reducible refine w_ite ?_) | (with_reducible refine w_expr ?_) | (with_reducible refine w_ret ?_) | (with_reducible refine w_setV ?_) | (with_reducible refine w_setO ?_) | (with_reducible refine w_m2 ?_) | (with_reducible refine w_m1 ?_) | (with_reducible refine w_mB ?_) | (with_reducible refine w_mCh ?_) | (with_reducible refine w_andV ?_) | (with_reducible refine w_orV ?_) | (with_reducible refine w_notV ?_) | (with_reducible refine w_c ?_) | (with_reducible refine w_acons ?_) | (with_reducible refine w_anil ?_) | (with_reducible refine w_n ?_) | (with_reducible refine w_lst ?_) | (with_reducible refine w_tup ?_) | (with_reducible refine w_next ?_) | (with_reducible refine w_brk ?_) | (with_reducible refine w_cont ?_) | (with_reducible refine w_iR1 ?_) | (with_reducible refine w_iR2 ?_) | (with_reducible refine w_iQ ?_) | (with_reducible refine w_par2 ?_) | (with_reducible refine w_fzF ?_) | (with_reducible refine w_fzT ?_) | (with_reducible refine w_sub ?_) | (with_reducible refine w_yes ?_) | (with_reducible refine w_m ?_) | (with_reducible refine w_isi ?_) | (with_reducible refine w_sl ?_) | (with_reducible refine w_pNo ?_) | (with_reducible refine w_pI ?_) | (with_reducible refine w_disp ?_) | (with_reducible refine w_dnil ?_) | (with_reducible refine w_dcons ?_) | (with_reducible refine w_sTup ?_) | (with_reducible refine w_subAdd ⟨_, rfl⟩ ?_) | ((fail_if_success (with_reducible refine W.idt ?_)); first | (refine ⟨_, _, _, rfl, rfl, (by first | exact eqD_int _ _ | exact neD_int _ _ | exact addD_int _ _ | exact subD_int _ _ | exact eqD_str _ _ | exact neD_str _ _ | (rw [ixD_list]; rfl) | (rw [ixD_tuple]; rfl) | exact powD_int _ _ (by decide) | exact modD_int _ _ (by omega) | exact mulA_int _ _ (cmul_small (by constructor <;> omega) (by constructor <;> omega)) | exact divD_int _ _ (cdiv_small (by constructor <;> omega)) | exact (rfl : ltD (.int _) (.int _) = _) | exact (rfl : leD (.int _) (.int _) = _) | exact (rfl : gtD (.int _) (.int _) = _) | exact (rfl : geD (.int _) (.int _) = _)), ?_⟩) | (refine ⟨_, _, _, rfl, rfl, rfl, ?_⟩) | (refine ⟨_, rfl, ⟨_, rfl⟩, ?_⟩) | (refine ⟨_, rfl, rfl, ?_⟩) | (refine ⟨_, rfl, (by assumption : Fr.isObj _ = false), ?_⟩) | (refine ⟨_, _, rfl, (by assumption : (_ : Option Sl) = some _), ?_⟩) | (refine ⟨_, _, _, rfl, rfl, (by assumption : (_ : Option Sl) = some _), ?_⟩) | (refine ⟨_, _, rfl, rfl, ?_⟩) | (refine ⟨_, rfl, Nat.le_of_ble_eq_true rfl, ?_⟩) | (refine ⟨_, rfl, (by omega), (by omega), ?_⟩) | (refine ⟨_, _, rfl, (by omega), ?_⟩) | (refine ⟨_, rfl, ?_⟩) | (refine .inl ⟨_, .inl rfl, ?_⟩) | (refine .inl ⟨_, .inr rfl, ?_⟩) | (refine .inr ⟨_, rfl, ?_⟩))); try dsimp only [List.set_cons_zero, List.set_cons_succ])
    have bg : ∀ a', 0 ≤ a' → Bg (n + 1) (.list [.int a', .int b, .int c, .list (cs.map PyData.int)]) := fun a' h => ⟨a', b, c, cs, rfl, h, hb, hb2, hc, hc2, hcs⟩
    refine ⟨fun hz => ?_, fun hz => ?_⟩
    · repeat ((first | (with_reducible refine w_varE ?_; refine ⟨_, rfl, ?_⟩) | (with_reducible refine w_varF ?_; refine ⟨⟨_, rfl⟩, ?_⟩) | (with_reducible refine w_seq ?_) | (with_reducible refine w_if ?_) | (with_reducible refine w_and ?_) | (with_reducible refine w_or ?_) | (with_reducible refine w_not ?_) | (with_reducible refine w_ite ?_) | (with_reducible refine w_expr ?_) | (with_reducible refine w_ret ?_) | (with_reducible refine w_setV ?_) | (with_reducible refine w_setO ?_) | (with_reducible refine w_m2 ?_) | (with_reducible refine w_m1 ?_) | (with_reducible refine w_mB ?_) | (with_reducible refine w_mCh ?_) | (with_reducible refine w_andV ?_) | (with_reducible refine w_orV ?_) | (with_reducible refine w_notV ?_) | (with_reducible refine w_c ?_) | (with_reducible refine w_acons ?_) | (with_reducible refine w_anil ?_) | (with_reducible refine w_n ?_) | (with_reducible refine w_lst ?_) | (with_reducible refine w_tup ?_) | (with_reducible refine w_next ?_) | (with_reducible refine w_brk ?_) | (with_reducible refine w_cont ?_) | (with_reducible refine w_iR1 ?_) | (with_reducible refine w_iR2 ?_) | (with_reducible refine w_iQ ?_) | (with_reducible refine w_par2 ?_) | (with_reducible refine w_fzF ?_) | (with_reducible refine w_fzT ?_) | (with_reducible refine w_sub ?_) | (with_reducible refine w_yes ?_) | (with_reducible refine w_m ?_) | (with_reducible refine w_isi ?_) | (with_reducible refine w_sl ?_) | (with_reducible refine w_pNo ?_) | (with_reducible refine w_pI ?_) | (with_reducible refine w_disp ?_) | (with_reducible refine w_dnil ?_) | (with_reducible refine w_dcons ?_) | (with_reducible refine w_sTup ?_) | (with_reducible refine w_subAdd ⟨_, rfl⟩ ?_) | ((fail_if_success (with_reducible refine W.idt ?_)); first | (refine ⟨_, _, _, rfl, rfl, (by first | exact eqD_int _ _ | exact neD_int _ _ | exact addD_int _ _ | exact subD_int _ _ | exact eqD_str _ _ | exact neD_str _ _ | (rw [ixD_list]; rfl) | (rw [ixD_tuple]; rfl) | exact powD_int _ _ (by decide) | exact modD_int _ _ (by omega) | exact mulA_int _ _ (cmul_small (by constructor <;> omega) (by constructor <;> omega)) | exact divD_int _ _ (cdiv_small (by constructor <;> omega)) | exact (rfl : ltD (.int _) (.int _) = _) | exact (rfl : leD (.int _) (.int _) = _) | exact (rfl : gtD (.int _) (.int _) = _) | exact (rfl : geD (.int _) (.int _) = _)), ?_⟩) | (refine ⟨_, _, _, rfl, rfl, rfl, ?_⟩) | (refine ⟨_, rfl, ⟨_, rfl⟩, ?_⟩) | (refine ⟨_, rfl, rfl, ?_⟩) | (refine ⟨_, rfl, (by assumption : Fr.isObj _ = false), ?_⟩) | (refine ⟨_, _, rfl, (by assumption : (_ : Option Sl) = some _), ?_⟩) | (refine ⟨_, _, _, rfl, rfl, (by assumption : (_ : Option Sl) = some _), ?_⟩) | (refine ⟨_, _, rfl, rfl, ?_⟩) | (refine ⟨_, rfl, Nat.le_of_ble_eq_true rfl, ?_⟩) | (refine ⟨_, rfl, (by omega), (by omega), ?_⟩) | (refine ⟨_, _, rfl, (by omega), ?_⟩) | (refine ⟨_, rfl, ?_⟩) | (refine .inl ⟨_, .inl rfl, ?_⟩) | (refine .inl ⟨_, .inr rfl, ?_⟩) | (refine .inr ⟨_, rfl, ?_⟩))); try dsimp only [List.set_cons_zero, List.set_cons_succ])
      exact q _ _ (Int.emod_nonneg _ (by omega)) (Int.emod_lt_of_pos _ h0) (bg _ (Int.ediv_nonneg ha (by omega)))
    · repeat ((first | (with_reducible refine w_varE ?_; refine ⟨_, rfl, ?_⟩) | (with_reducible refine w_varF ?_; refine ⟨⟨_, rfl⟩, ?_⟩) | (with_reducible refine w_seq ?_) | (with_reducible refine w_if ?_) | (with_reducible refine w_and ?_) | (with_reducible refine w_or ?_) | (with_reducible refine w_not ?_) | (with_reducible refine w_ite ?_) | (with_reducible refine w_expr ?_) | (with_reducible refine w_ret ?_) | (with_reducible refine w_setV ?_) | (with_reducible refine w_setO ?_) | (with_reducible refine w_m2 ?_) | (with_reducible refine w_m1 ?_) | (with_reducible refine w_mB ?_) | (with_reducible refine w_mCh ?_) | (with_reducible refine w_andV ?_) | (with_reducible refine w_orV ?_) | (with_reducible refine w_notV ?_) | (with_reducible refine w_c ?_) | (with_reducible refine w_acons ?_) | (with_reducible refine w_anil ?_) | (with_reducible refine w_n ?_) | (with_reducible refine w_lst ?_) | (with_reducible refine w_tup ?_) | (with_reducible refine w_next ?_) | (with_reducible refine w_brk ?_) | (with_reducible refine w_cont ?_) | (with_reducible refine w_iR1 ?_) | (with_reducible refine w_iR2 ?_) | (with_reducible refine w_iQ ?_) | (with_reducible refine w_par2 ?_) | (with_reducible refine w_fzF ?_) | (with_reducible refine w_fzT ?_) | (with_reducible refine w_sub ?_) | (with_reducible refine w_yes ?_) | (with_reducible refine w_m ?_) | (with_reducible refine w_isi ?_) | (with_reducible refine w_sl ?_) | (with_reducible refine w_pNo ?_) | (with_reducible refine w_pI ?_) | (with_reducible refine w_disp ?_) | (with_reducible refine w_dnil ?_) | (with_reducible refine w_dcons ?_) | (with_reducible refine w_sTup ?_) | (with_reducible refine w_subAdd ⟨_, rfl⟩ ?_) | ((fail_if_success (with_reducible refine W.idt ?_)); first | (refine ⟨_, _, _, rfl, rfl, (by first | exact eqD_int _ _ | exact neD_int _ _ | exact addD_int _ _ | exact subD_int _ _ | exact eqD_str _ _ | exact neD_str _ _ | (rw [ixD_list]; rfl) | (rw [ixD_tuple]; rfl) | exact powD_int _ _ (by decide) | exact modD_int _ _ (by omega) | exact mulA_int _ _ (cmul_small (by constructor <;> omega) (by constructor <;> omega)) | exact divD_int _ _ (cdiv_small (by constructor <;> omega)) | exact (rfl : ltD (.int _) (.int _) = _) | exact (rfl : leD (.int _) (.int _) = _) | exact (rfl : gtD (.int _) (.int _) = _) | exact (rfl : geD (.int _) (.int _) = _)), ?_⟩) | (refine ⟨_, _, _, rfl, rfl, rfl, ?_⟩) | (refine ⟨_, rfl, ⟨_, rfl⟩, ?_⟩) | (refine ⟨_, rfl, rfl, ?_⟩) | (refine ⟨_, rfl, (by assumption : Fr.isObj _ = false), ?_⟩) | (refine ⟨_, _, rfl, (by assumption : (_ : Option Sl) = some _), ?_⟩) | (refine ⟨_, _, _, rfl, rfl, (by assumption : (_ : Option Sl) = some _), ?_⟩) | (refine ⟨_, _, rfl, rfl, ?_⟩) | (refine ⟨_, rfl, Nat.le_of_ble_eq_true rfl, ?_⟩) | (refine ⟨_, rfl, (by omega), (by omega), ?_⟩) | (refine ⟨_, _, rfl, (by omega), ?_⟩) | (refine ⟨_, rfl, ?_⟩) | (refine .inl ⟨_, .inl rfl, ?_⟩) | (refine .inl ⟨_, .inr rfl, ?_⟩) | (refine .inr ⟨_, rfl, ?_⟩))); try dsimp only [List.set_cons_zero, List.set_cons_succ])
      refine ⟨fun hz => ?_, fun hz => ?_⟩
      · repeat ((first | (with_reducible refine w_varE ?_; refine ⟨_, rfl, ?_⟩) | (with_reducible refine w_varF ?_; refine ⟨⟨_, rfl⟩, ?_⟩) | (with_reducible refine w_seq ?_) | (with_reducible refine w_if ?_) | (with_reducible refine w_and ?_) | (with_reducible refine w_or ?_) | (with_reducible refine w_not ?_) | (with_reducible refine w_ite ?_) | (with_reducible refine w_expr ?_) | (with_reducible refine w_ret ?_) | (with_reducible refine w_setV ?_) | (with_reducible refine w_setO ?_) | (with_reducible refine w_m2 ?_) | (with_reducible refine w_m1 ?_) | (with_reducible refine w_mB ?_) | (with_reducible refine w_mCh ?_) | (with_reducible refine w_andV ?_) | (with_reducible refine w_orV ?_) | (with_reducible refine w_notV ?_) | (with_reducible refine w_c ?_) | (with_reducible refine w_acons ?_) | (with_reducible refine w_anil ?_) | (with_reducible refine w_n ?_) | (with_reducible refine w_lst ?_) | (with_reducible refine w_tup ?_) | (with_reducible refine w_next ?_) | (with_reducible refine w_brk ?_) | (with_reducible refine w_cont ?_) | (with_reducible refine w_iR1 ?_) | (with_reducible refine w_iR2 ?_) | (with_reducible refine w_iQ ?_) | (with_reducible refine w_par2 ?_) | (with_reducible refine w_fzF ?_) | (with_reducible refine w_fzT ?_) | (with_reducible refine w_sub ?_) | (with_reducible refine w_yes ?_) | (with_reducible refine w_m ?_) | (with_reducible refine w_isi ?_) | (with_reducible refine w_sl ?_) | (with_reducible refine w_pNo ?_) | (with_reducible refine w_pI ?_) | (with_reducible refine w_disp ?_) | (with_reducible refine w_dnil ?_) | (with_reducible refine w_dcons ?_) | (with_reducible refine w_sTup ?_) | (with_reducible refine w_subAdd ⟨_, rfl⟩ ?_) | ((fail_if_success (with_reducible refine W.idt ?_)); first | (refine ⟨_, _, _, rfl, rfl, (by first | exact eqD_int _ _ | exact neD_int _ _ | exact addD_int _ _ | exact subD_int _ _ | exact eqD_str _ _ | exact neD_str _ _ | (rw [ixD_list]; rfl) | (rw [ixD_tuple]; rfl) | exact powD_int _ _ (by decide) | exact modD_int _ _ (by omega) | exact mulA_int _ _ (cmul_small (by constructor <;> omega) (by constructor <;> omega)) | exact divD_int _ _ (cdiv_small (by constructor <;> omega)) | exact (rfl : ltD (.int _) (.int _) = _) | exact (rfl : leD (.int _) (.int _) = _) | exact (rfl : gtD (.int _) (.int _) = _) | exact (rfl : geD (.int _) (.int _) = _)), ?_⟩) | (refine ⟨_, _, _, rfl, rfl, rfl, ?_⟩) | (refine ⟨_, rfl, ⟨_, rfl⟩, ?_⟩) | (refine ⟨_, rfl, rfl, ?_⟩) | (refine ⟨_, rfl, (by assumption : Fr.isObj _ = false), ?_⟩) | (refine ⟨_, _, rfl, (by assumption : (_ : Option Sl) = some _), ?_⟩) | (refine ⟨_, _, _, rfl, rfl, (by assumption : (_ : Option Sl) = some _), ?_⟩) | (refine ⟨_, _, rfl, rfl, ?_⟩) | (refine ⟨_, rfl, Nat.le_of_ble_eq_true rfl, ?_⟩) | (refine ⟨_, rfl, (by omega), (by omega), ?_⟩) | (refine ⟨_, _, rfl, (by omega), ?_⟩) | (refine ⟨_, rfl, ?_⟩) | (refine .inl ⟨_, .inl rfl, ?_⟩) | (refine .inl ⟨_, .inr rfl, ?_⟩) | (refine .inr ⟨_, rfl, ?_⟩))); try dsimp only [List.set_cons_zero, List.set_cons_succ])
        exact q _ _ (Int.emod_nonneg _ (by omega)) (Int.emod_lt_of_pos _ h0) (bg _ ha)
      · repeat ((first | (with_reducible refine w_varE ?_; refine ⟨_, rfl, ?_⟩) | (with_reducible refine w_varF ?_; refine ⟨⟨_, rfl⟩, ?_⟩) | (with_reducible refine w_seq ?_) | (with_reducible refine w_if ?_) | (with_reducible refine w_and ?_) | (with_reducible refine w_or ?_) | (with_reducible refine w_not ?_) | (with_reducible refine w_ite ?_) | (with_reducible refine w_expr ?_) | (with_reducible refine w_ret ?_) | (with_reducible refine w_setV ?_) | (with_reducible refine w_setO ?_) | (with_reducible refine w_m2 ?_) | (with_reducible refine w_m1 ?_) | (with_reducible refine w_mB ?_) | (with_reducible refine w_mCh ?_) | (with_reducible refine w_andV ?_) | (with_reducible refine w_orV ?_) | (with_reducible refine w_notV ?_) | (with_reducible refine w_c ?_) | (with_reducible refine w_acons ?_) | (with_reducible refine w_anil ?_) | (with_reducible refine w_n ?_) | (with_reducible refine w_lst ?_) | (with_reducible refine w_tup ?_) | (with_reducible refine w_next ?_) | (with_reducible refine w_brk ?_) | (with_reducible refine w_cont ?_) | (with_reducible refine w_iR1 ?_) | (with_reducible refine w_iR2 ?_) | (with_reducible refine w_iQ ?_) | (with_reducible refine w_par2 ?_) | (with_reducible refine w_fzF ?_) | (with_reducible refine w_fzT ?_) | (with_reducible refine w_sub ?_) | (with_reducible refine w_yes ?_) | (with_reducible refine w_m ?_) | (with_reducible refine w_isi ?_) | (with_reducible refine w_sl ?_) | (with_reducible refine w_pNo ?_) | (with_reducible refine w_pI ?_) | (with_reducible refine w_disp ?_) | (with_reducible refine w_dnil ?_) | (with_reducible refine w_dcons ?_) | (with_reducible refine w_sTup ?_) | (with_reducible refine w_subAdd ⟨_, rfl⟩ ?_) | ((fail_if_success (with_reducible refine W.idt ?_)); first | (refine ⟨_, _, _, rfl, rfl, (by first | exact eqD_int _ _ | exact neD_int _ _ | exact addD_int _ _ | exact subD_int _ _ | exact eqD_str _ _ | exact neD_str _ _ | (rw [ixD_list]; rfl) | (rw [ixD_tuple]; rfl) | exact powD_int _ _ (by decide) | exact modD_int _ _ (by omega) | exact mulA_int _ _ (cmul_small (by constructor <;> omega) (by constructor <;> omega)) | exact divD_int _ _ (cdiv_small (by constructor <;> omega)) | exact (rfl : ltD (.int _) (.int _) = _) | exact (rfl : leD (.int _) (.int _) = _) | exact (rfl : gtD (.int _) (.int _) = _) | exact (rfl : geD (.int _) (.int _) = _)), ?_⟩) | (refine ⟨_, _, _, rfl, rfl, rfl, ?_⟩) | (refine ⟨_, rfl, ⟨_, rfl⟩, ?_⟩) | (refine ⟨_, rfl, rfl, ?_⟩) | (refine ⟨_, rfl, (by assumption : Fr.isObj _ = false), ?_⟩) | (refine ⟨_, _, rfl, (by assumption : (_ : Option Sl) = some _), ?_⟩) | (refine ⟨_, _, _, rfl, rfl, (by assumption : (_ : Option Sl) = some _), ?_⟩) | (refine ⟨_, _, rfl, rfl, ?_⟩) | (refine ⟨_, rfl, Nat.le_of_ble_eq_true rfl, ?_⟩) | (refine ⟨_, rfl, (by omega), (by omega), ?_⟩) | (refine ⟨_, _, rfl, (by omega), ?_⟩) | (refine ⟨_, rfl, ?_⟩) | (refine .inl ⟨_, .inl rfl, ?_⟩) | (refine .inl ⟨_, .inr rfl, ?_⟩) | (refine .inr ⟨_, rfl, ?_⟩))); try dsimp only [List.set_cons_zero, List.set_cons_succ])
        exact q _ _ (Int.emod_nonneg _ (by omega)) (Int.emod_lt_of_pos _ h0) (bg _ ha)
theorem posOf_nr (j : Nat) : ∀ (rs : List Rv) (k : Nat), rs.all noRef = true → posOf j rs k = none
  | [], _, _ => rfl
  | .val _ :: r, k, h => posOf_nr j r (k + 1) (by simpa [noRef] using h)
  | .own _ :: r, k, h => posOf_nr j r (k + 1) (by simpa [noRef] using h)
  | .ref _ :: r, k, h => by simp [noRef] at h
theorem wb_one (ρ : EV) (i : Nat) (rs : List Rv) (x : Option Sl) (xs : EV) (h : rs.all noRef = true) : wb ρ (.ref i :: rs) (x :: xs) = ρ.set i x := by
  unfold wb
  refine List.ext_getElem? fun j => ?_
  rw [List.getElem?_mapIdx, List.getElem?_set]
  by_cases q : i = j
  · subst q
    simp only [posOf, if_true]
    cases z : ρ[i]? with
    | none =>
      rw [if_neg (by rw [List.getElem?_eq_none_iff] at z; omega)]; rfl
    | some y =>
      rw [if_pos (List.getElem?_eq_some_iff.mp z).1]; rfl
  · rw [if_neg q]
    simp only [posOf, if_neg q, posOf_nr j rs _ h]
    cases ρ[j]? <;> rfl
theorem wb_none (ρ : EV) (rs : List Rv) (xs : EV) (h : rs.all noRef = true) : wb ρ rs xs = ρ := by
  unfold wb
  refine List.ext_getElem? fun j => ?_
  rw [List.getElem?_mapIdx]
  simp only [posOf_nr j rs _ h]
  cases ρ[j]? <;> rfl
/-- a call with the thing owned by slot i alone -/
theorem w_fnO {ρ : EV} {i : Nat} {d : D} {mf : Mf} {Q : Rv × EV → Prop} (e : ρ[i]? = some (some (.own d))) (h : W (mf [some (.own d)]) fun y => noRef y.1 = true ∧ ∃ d', y.2 = [some (.own d')] ∧ Q (y.1, ρ.set i (some (.own d')))) : W (mFn mf [] (aCons (mVar i) aNil) ρ) Q := by
  refine w_fn (w_acons (w_varO e (w_anil ⟨rfl, ?_⟩)))
  simp only [List.map_nil, List.append_nil, List.map_cons, argOf, fz, e]
  refine h.mono fun y hy => ?_
  obtain ⟨h1, d', h2, h3⟩ := hy
  refine ⟨h1, ?_⟩
  rw [h2, wb_one _ _ _ _ _ rfl]; exact h3
theorem ndR_vals : ∀ ds : List D, ndR (ds.map Rv.val) = true
  | [] => rfl
  | _ :: ds => ndR_vals ds
theorem nr_vals (ds : List D) : (ds.map Rv.val).all noRef = true := by
  rw [List.all_map, List.all_eq_true]; exact fun _ _ => rfl
/-- a call with values -/
theorem w_fnV {ρ : EV} {mf : Mf} {as : EV → Out (List Rv × EV)} {Q : Rv × EV → Prop} (h : W (as ρ) fun x => ∃ ds : List D, x.1 = ds.map Rv.val ∧ W (mf (ds.map fun d => some (.val d))) fun y => noRef y.1 = true ∧ Q (y.1, x.2)) : W (mFn mf [] as ρ) Q := by
  refine w_fn (h.mono fun x hx => ?_)
  obtain ⟨ds, h1, h2⟩ := hx
  rw [List.map_nil, List.append_nil, h1]
  refine ⟨ndR_vals ds, ?_⟩
  rw [List.map_map]
  refine W.mono (show W (mf (ds.map fun d => some (.val d))) _ from h2) fun y hy => ⟨hy.1, ?_⟩
  rw [wb_none _ _ _ (nr_vals ds)]; exact hy.2
/-- a call of take out of a bag in slot i -/
theorem w_take {ρ : EV} {i n : Nat} {d : D} {many : Int} {a : EV → Out (Rv × EV)} {Q : Rv × EV → Prop} (e : ρ[i]? = some (some (.own d))) (ha : W (a ρ) fun x => fz x.1 = .val (.int many) ∧ x.2 = ρ) (h : Bg n d) (hn : n ≤ 1000000) (h0 : 0 < many) (h1 : many < 2 ^ 100)
    (q : ∀ v d', 0 ≤ v → v < many → Bg (n + 1) d' → Q (.val (.int v), ρ.set i (some (.own d')))) : W (mFn m_take [] (aCons (mVar i) (aCons a aNil)) ρ) Q := by
  refine w_fn (w_acons (w_varO e (w_acons (ha.mono fun x hx => w_anil ?_))))
  obtain ⟨r, ρ'⟩ := x
  obtain ⟨h2, rfl⟩ := hx
  dsimp only at h2 ⊢
  rw [h2]
  refine ⟨rfl, ?_⟩
  simp only [List.map_nil, List.append_nil, List.map_cons, argOf, fz, e]
  refine take_ok h hn h0 h1 fun v d' hv hv2 hb => ⟨rfl, ?_⟩
  have := q v d' hv hv2 hb
  rw [wb_one _ _ _ _ _ rfl]; exact this
end Fr
namespace K12
open PySem L2 Fr
def top (i : Nat) : Stmt := PySem.Challenge.pw_firingrules_k12_integers_and_names.main.body.getD i (.Pass ⟨0, 0, 0, 0⟩)
section
variable {P : Program} {w : World} {K : PySem.W.Frag} {mg : Str → Option Value} {bs : Heap} {cl : Str → Addr}
abbrev s_is_integer : Stmt := top 2
abbrev N_is_integer : List Str := ["thing"]
theorem sc_is_integer : FnScope N_is_integer ["thing"] (defScope s_is_integer) := ⟨rfl, rfl, rfl, by decide +kernel, rfl, by decide +kernel, by decide +kernel⟩
def b_is_integer : EV → Out (Fl × EV) :=
  (sRet 1 (mAndV (mIsi .int (mVar 0)) (mNotV (mIsi .bool (mVar 0)))))
def m_is_integer : Mf := runF 1 1 b_is_integer
theorem ok_is_integer {f : Addr} {fd : FuncData} (Fu : Fun K "is_integer" "is_integer" s_is_integer f fd) (T : Bn mg) : FnG P w K mg bs 1 f fd ["thing"] (SpF ⟨K, cl⟩ m_is_integer) := by
  refine fun_g Fu sc_is_integer fun cdv A out s H E C => ?_
  unfold b_is_integer
  exact ⟨_, (sb_one (ss_ret (se_and (se_isi .int C (se_var 0) T.isinstance T.int) (se_one (se_not (se_isi .bool C (se_var 0) T.isinstance T.bool))))))⟩

abbrev s_is_name : Stmt := top 3
abbrev N_is_name : List Str := ["thing"]
theorem sc_is_name : FnScope N_is_name ["thing"] (defScope s_is_name) := ⟨rfl, rfl, rfl, by decide +kernel, rfl, by decide +kernel, by decide +kernel⟩
def b_is_name : EV → Out (Fl × EV) :=
  (sSeq (sIf (mOr (mNot (mB (mIsi .str (mVar 0)))) (mNot (mB (mCh leD leD (mC (.int 1)) (mN lenD (aCons (mVar 0) aNil)) (mC (.int 8)))))) (sRet 1 (mC (.bool false))) sNext)
    (sRet 1 (mAndV (mM "str" (strB Txt.isascii) (mVar 0) aNil) (mAndV (mM "str" (strB Txt.isalpha) (mVar 0) aNil) (mM "str" (strB Txt.islower) (mVar 0) aNil)))))
def m_is_name : Mf := runF 1 1 b_is_name
theorem ok_is_name {f : Addr} {fd : FuncData} (Fu : Fun K "is_name" "is_name" s_is_name f fd) (T : Bn mg) {v_LONGEST_NAME : V} (c_LONGEST_NAME : Gc K mg "LONGEST_NAME" (.int 8) v_LONGEST_NAME) : FnG P w K mg bs 1 f fd ["thing"] (SpF ⟨K, cl⟩ m_is_name) := by
  refine fun_g Fu sc_is_name fun cdv A out s H E C => ?_
  unfold b_is_name
  exact ⟨_, (sb_cons (ss_if (sq_w (sw_or (sq_not (sq_val (se_isi .str C (se_var 0) T.isinstance T.str))) (sw_or1 (sq_not (sq_ch op_le v_le op_le v_le se_int (se_callB (r_len C) v_len T.len (by decide +kernel) (sa_cons (se_var 0) sa_nil)) (se_gc C c_LONGEST_NAME)))))) (sb_one (ss_ret se_bl)) sb_nil)
    (sb_one (ss_ret (se_and (se_m0 C PySem.F.plainAttrs_str PySem.F.slot_str_isascii PySem.F.type_str_isascii mt_isascii v_strB (se_var 0)) (se_and (se_m0 C PySem.F.plainAttrs_str PySem.F.slot_str_isalpha PySem.F.type_str_isalpha mt_isalpha v_strB (se_var 0)) (se_one (se_m0 C PySem.F.plainAttrs_str PySem.F.slot_str_islower PySem.F.type_str_islower mt_islower v_strB (se_var 0))))))))⟩

abbrev s__law_bag : Stmt := top 5
abbrev N__law_bag : List Str := ["_law_script", "_law_cell"]
theorem sc__law_bag : FnScope N__law_bag ["_law_script"] (defScope s__law_bag) := ⟨rfl, rfl, rfl, by decide +kernel, rfl, by decide +kernel, by decide +kernel⟩
def b__law_bag : EV → Out (Fl × EV) :=
  (sRet 1 (mLst (aCons (mC (.int 0)) (aCons (mC (.int 1234567891)) (aCons (mC (.int 0)) (aCons (mLc (iQ (mSl (mVar 0) pNo (pI (mC (.int 63))))) (gN 0 1) [1] mYes (mN absD (aCons (mVar 1) aNil))) aNil))))))
def m__law_bag : Mf := runF 1 2 b__law_bag
theorem ok__law_bag {f : Addr} {fd : FuncData} (Fu : Fun K "_law_bag" "_law_bag" s__law_bag f fd) (T : Bn mg) : FnG P w K mg bs 1 f fd ["_law_script"] (SpF ⟨K, cl⟩ m__law_bag) := by
  refine fun_g Fu sc__law_bag fun cdv A out s H E C => ?_
  unfold b__law_bag
  exact ⟨_, (sb_one (ss_ret (se_lst (sa_cons se_int (sa_cons se_int (sa_cons se_int (sa_cons (se_lc [("_law_cell", 1)] C.calm sc__law_bag.nd (si_seq C (se_slice C (se_var 0) sp_no (sp_some se_int))) (blkOk_by (own := [("_law_cell", 1)]) (N := N__law_bag) (sc := defScope s__law_bag) (by decide +kernel)) (fun _ _ _ _ _ => (sg_name 1 sc__law_bag.nd (by decide))) (fun _ _ _ _ _ => sps_nil) (fun _ _ _ _ _ => (se_callB call_abs v_abs T.abs (by decide +kernel) (sa_cons (se_var 1) sa_nil)))) sa_nil)))))))⟩

abbrev s__law_take : Stmt := top 6
abbrev N__law_take : List Str := ["_law_bag_here", "_law_many", "_law_cell", "_law_value", "_law_first", "_law_second"]
theorem sc__law_take : FnScope N__law_take ["_law_bag_here", "_law_many"] (defScope s__law_take) := ⟨rfl, rfl, rfl, by decide +kernel, rfl, by decide +kernel, by decide +kernel⟩
def b__law_take : EV → Out (Fl × EV) :=
  (sSeq (sIf (mB (m2 eqD (m2 ixD (mVar 0) (mC (.int 0))) (mC (.int 0)))) (sSeq (sSetV 2 2 (mC (.int 0)))
    (sSeq (sIf (mB (m2 ltD (m2 ixD (mVar 0) (mC (.int 2))) (mN lenD (aCons (m2 ixD (mVar 0) (mC (.int 3))) aNil)))) (sSetV 2 2 (m2 ixD (m2 ixD (mVar 0) (mC (.int 3))) (m2 ixD (mVar 0) (mC (.int 2))))) sNext)
    (sSeq (sSubAdd 0 (mC (.int 2)) (mC (.int 1)))
    (sSeq (sIf (mB (m2 geD (mVar 2) (mC (.int 1000000000000000000)))) (sSub 0 (mC (.int 0)) (mVar 2)) sNext)
    (sSub 0 (mC (.int 1)) (m2 modD (m2 addD (m2 addD (m2 mulA (m2 ixD (mVar 0) (mC (.int 1))) (mC (.int 48271))) (m2 modD (mVar 2) (mC (.int 2147483647)))) (m2 mulA (mC (.int 7919)) (m2 ixD (mVar 0) (mC (.int 2))))) (mC (.int 2147483647)))))))) sNext)
    (sSeq (sIf (mB (m2 gtD (m2 ixD (mVar 0) (mC (.int 0))) (mC (.int 0)))) (sSeq (sSetV 2 3 (m2 modD (m2 ixD (mVar 0) (mC (.int 0))) (mVar 1)))
    (sSeq (sSub 0 (mC (.int 0)) (m2 divD (m2 ixD (mVar 0) (mC (.int 0))) (mVar 1)))
    (sRet 2 (mVar 3)))) sNext)
    (sSeq (sSetV 2 4 (m2 modD (m2 mulA (m2 addD (m2 ixD (mVar 0) (mC (.int 1))) (mC (.int 1))) (mC (.int 39373))) (mC (.int 1000000007))))
    (sSeq (sSetV 2 5 (m2 modD (m2 mulA (m2 modD (m2 mulA (mVar 4) (mVar 4)) (mC (.int 998244353))) (mC (.int 30011))) (mC (.int 998244353))))
    (sSeq (sIf (mB (m2 gtD (mVar 1) (mC (.int 1000000)))) (sRet 2 (m2 modD (m2 addD (m2 mulA (mVar 5) (mC (.int 1000000007))) (mVar 4)) (mVar 1))) sNext)
    (sRet 2 (m2 modD (m2 divD (mVar 5) (mC (.int 7))) (mVar 1))))))))
def m__law_take : Mf := runF 2 6 b__law_take
theorem ok__law_take {f : Addr} {fd : FuncData} (Fu : Fun K "_law_take" "_law_take" s__law_take f fd) (T : Bn mg) : FnG P w K mg bs 1 f fd ["_law_bag_here", "_law_many"] (SpF ⟨K, cl⟩ m__law_take) := by
  refine fun_g Fu sc__law_take fun cdv A out s H E C => ?_
  unfold b__law_take
  exact ⟨_, (sb_cons (ss_if (sq_cmp (r_eq C) v_eq (se_ix (r_ix C) v_ix (se_var 0) se_int) se_int (nomark _)) (sb_cons (ss_setV 2 sc__law_take.nd se_int)
    (sb_cons (ss_if (sq_cmp op_lt v_lt (se_ix (r_ix C) v_ix (se_var 0) se_int) (se_callB (r_len C) v_len T.len (by decide +kernel) (sa_cons (se_ix (r_ix C) v_ix (se_var 0) se_int) sa_nil)) (nomark _)) (sb_one (ss_setV 2 sc__law_take.nd (se_ix (r_ix C) v_ix (se_ix (r_ix C) v_ix (se_var 0) se_int) (se_ix (r_ix C) v_ix (se_var 0) se_int)))) sb_nil)
    (sb_cons (ss_subAdd 0 C se_int se_int)
    (sb_cons (ss_if (sq_cmp op_ge v_ge (se_var 2) se_int (nomark _)) (sb_one (ss_sub 0 se_int (se_var 2))) sb_nil)
    (sb_one (ss_sub 0 se_int (se_bin op_mod v_mod (se_bin (or_add C) v_add (se_bin (or_add C) v_add (se_bin (or_mulA C) v_mulA (se_ix (r_ix C) v_ix (se_var 0) se_int) se_int) (se_bin op_mod v_mod (se_var 2) se_int)) (se_bin (or_mulA C) v_mulA se_int (se_ix (r_ix C) v_ix (se_var 0) se_int))) se_int))))))) sb_nil)
    (sb_cons (ss_if (sq_cmp op_gt v_gt (se_ix (r_ix C) v_ix (se_var 0) se_int) se_int (nomark _)) (sb_cons (ss_setV 3 sc__law_take.nd (se_bin op_mod v_mod (se_ix (r_ix C) v_ix (se_var 0) se_int) (se_var 1)))
    (sb_cons (ss_sub 0 se_int (se_bin op_fdivW v_div (se_ix (r_ix C) v_ix (se_var 0) se_int) (se_var 1)))
    (sb_one (ss_ret (se_var 3))))) sb_nil)
    (sb_cons (ss_setV 4 sc__law_take.nd (se_bin op_mod v_mod (se_bin (or_mulA C) v_mulA (se_bin (or_add C) v_add (se_ix (r_ix C) v_ix (se_var 0) se_int) se_int) se_int) se_int))
    (sb_cons (ss_setV 5 sc__law_take.nd (se_bin op_mod v_mod (se_bin (or_mulA C) v_mulA (se_bin op_mod v_mod (se_bin (or_mulA C) v_mulA (se_var 4) (se_var 4)) se_int) se_int) se_int))
    (sb_cons (ss_if (sq_cmp op_gt v_gt (se_var 1) se_int (nomark _)) (sb_one (ss_ret (se_bin op_mod v_mod (se_bin (or_add C) v_add (se_bin (or_mulA C) v_mulA (se_var 5) se_int) (se_var 4)) (se_var 1)))) sb_nil)
    (sb_one (ss_ret (se_bin op_mod v_mod (se_bin op_fdivW v_div (se_var 5) se_int) (se_var 1)))))))))⟩

abbrev s__law_alike : Stmt := top 7
abbrev N__law_alike : List Str := ["_law_found", "_law_due"]
theorem sc__law_alike : FnScope N__law_alike ["_law_found", "_law_due"] (defScope s__law_alike) := ⟨rfl, rfl, rfl, by decide +kernel, rfl, by decide +kernel, by decide +kernel⟩
def b__law_alike : EV → Out (Fl × EV) :=
  (sRet 2 (mAndV (m2 eqD (mVar 0) (mVar 1)) (m2 eqD (mN reprA (aCons (mVar 0) aNil)) (mN reprA (aCons (mVar 1) aNil)))))
def m__law_alike : Mf := runF 2 2 b__law_alike
theorem ok__law_alike {f : Addr} {fd : FuncData} (Fu : Fun K "_law_alike" "_law_alike" s__law_alike f fd) (T : Bn mg) : FnG P w K mg bs 1 f fd ["_law_found", "_law_due"] (SpF ⟨K, cl⟩ m__law_alike) := by
  refine fun_g Fu sc__law_alike fun cdv A out s H E C => ?_
  unfold b__law_alike
  exact ⟨_, (sb_one (ss_ret (se_and (se_cmp (r_eq C) v_eq (se_var 0) (se_var 1) (nomark _)) (se_one (se_cmp (r_eq C) v_eq (se_callB (or_repr C) v_reprA T.repr (by decide +kernel) (sa_cons (se_var 0) sa_nil)) (se_callB (or_repr C) v_reprA T.repr (by decide +kernel) (sa_cons (se_var 1) sa_nil)) (nomark _))))))⟩

abbrev s__law_whole : Stmt := top 8
abbrev N__law_whole : List Str := ["_law_thing_here"]
theorem sc__law_whole : FnScope N__law_whole ["_law_thing_here"] (defScope s__law_whole) := ⟨rfl, rfl, rfl, by decide +kernel, rfl, by decide +kernel, by decide +kernel⟩
def b__law_whole : EV → Out (Fl × EV) :=
  (sRet 1 (mAndV (mIsi .int (mVar 0)) (mNotV (mIsi .bool (mVar 0)))))
def m__law_whole : Mf := runF 1 1 b__law_whole
theorem ok__law_whole {f : Addr} {fd : FuncData} (Fu : Fun K "_law_whole" "_law_whole" s__law_whole f fd) (T : Bn mg) : FnG P w K mg bs 1 f fd ["_law_thing_here"] (SpF ⟨K, cl⟩ m__law_whole) := by
  refine fun_g Fu sc__law_whole fun cdv A out s H E C => ?_
  unfold b__law_whole
  exact ⟨_, (sb_one (ss_ret (se_and (se_isi .int C (se_var 0) T.isinstance T.int) (se_one (se_not (se_isi .bool C (se_var 0) T.isinstance T.bool))))))⟩

abbrev s__law_is_name : Stmt := top 9
abbrev N__law_is_name : List Str := ["_law_thing_here", "_law_letter"]
theorem sc__law_is_name : FnScope N__law_is_name ["_law_thing_here"] (defScope s__law_is_name) := ⟨rfl, rfl, rfl, by decide +kernel, rfl, by decide +kernel, by decide +kernel⟩
def b__law_is_name : EV → Out (Fl × EV) :=
  (sSeq (sIf (mOr (mNot (mB (mIsi .str (mVar 0)))) (mOr (mB (m2 eqD (mVar 0) (mC (.str "")))) (mB (m2 gtD (mN lenD (aCons (mVar 0) aNil)) (mC (.int 8)))))) (sRet 1 (mC (.bool false))) sNext)
    (sRet 1 (m2 eqD (mLc (iQ (mVar 0)) (gN 0 1) [1] (mB (m2 ninD (mVar 1) (mC (.str "abcdefghijklmnopqrstuvwxyz")))) (mVar 1)) (mLst aNil))))
def m__law_is_name : Mf := runF 1 2 b__law_is_name
theorem ok__law_is_name {f : Addr} {fd : FuncData} (Fu : Fun K "_law_is_name" "_law_is_name" s__law_is_name f fd) (T : Bn mg) : FnG P w K mg bs 1 f fd ["_law_thing_here"] (SpF ⟨K, cl⟩ m__law_is_name) := by
  refine fun_g Fu sc__law_is_name fun cdv A out s H E C => ?_
  unfold b__law_is_name
  exact ⟨_, (sb_cons (ss_if (sq_w (sw_or (sq_not (sq_val (se_isi .str C (se_var 0) T.isinstance T.str))) (sw_or (sq_cmp (r_eq C) v_eq (se_var 0) se_str (nomark _)) (sw_or1 (sq_cmp op_gt v_gt (se_callB (r_len C) v_len T.len (by decide +kernel) (sa_cons (se_var 0) sa_nil)) se_int (nomark _)))))) (sb_one (ss_ret se_bl)) sb_nil)
    (sb_one (ss_ret (se_cmp (r_eq C) v_eq (se_lc [("_law_letter", 1)] C.calm sc__law_is_name.nd (si_seq C (se_var 0)) (blkOk_by (own := [("_law_letter", 1)]) (N := N__law_is_name) (sc := defScope s__law_is_name) (by decide +kernel)) (fun _ _ _ _ _ => (sg_name 1 sc__law_is_name.nd (by decide))) (fun _ _ _ _ _ => (sps_one (sq_cmp (or_nin C.blk) v_nin (se_var 1) se_str rfl))) (fun _ _ _ _ _ => (se_var 1))) (se_lst sa_nil) (nomark _)))))⟩

abbrev s__law_text : Stmt := top 10
abbrev N__law_text : List Str := ["_law_bag_here", "_law_found", "_law_k", "_law_at"]
theorem sc__law_text : FnScope N__law_text ["_law_bag_here"] (defScope s__law_text) := ⟨rfl, rfl, rfl, by decide +kernel, rfl, by decide +kernel, by decide +kernel⟩
def b__law_text : EV → Out (Fl × EV) :=
  (sSeq (sSetV 1 1 (mM "str" joinD (mC (.str "")) (aCons (mLc (iR1 (aCons (mFn m__law_take [] (aCons (mVar 0) (aCons (mC (.int 11)) aNil))) aNil)) (gN 0 2) [2] mYes (m2 ixD (mC (.str "abcdefghijklmnopqrstuvwxyz")) (mFn m__law_take [] (aCons (mVar 0) (aCons (mC (.int 26)) aNil))))) aNil)))
    (sSeq (sIf (mB (m2 gtD (mFn m__law_take [] (aCons (mVar 0) (aCons (mC (.int 3)) aNil))) (mC (.int 0)))) (sRet 1 (mVar 1)) sNext)
    (sSeq (sSetV 1 3 (mFn m__law_take [] (aCons (mVar 0) (aCons (m2 addD (mN lenD (aCons (mVar 1) aNil)) (mC (.int 1))) aNil))))
    (sRet 1 (m2 addD (m2 addD (mSl (mVar 1) pNo (pI (mVar 3))) (m2 ixD (mLst (aCons (mC (.str "A")) (aCons (mC (.str "0")) (aCons (mC (.str " ")) (aCons (mC (.str "\n")) (aCons (mC (.str "_")) (aCons (mC (.str "-")) (aCons (mC (.str "{")) (aCons (mC (.str "`")) (aCons (mC (.str "Z")) aNil)))))))))) (mFn m__law_take [] (aCons (mVar 0) (aCons (mC (.int 9)) aNil))))) (mSl (mVar 1) (pI (mVar 3)) pNo))))))
def m__law_text : Mf := runF 1 4 b__law_text
theorem ok__law_text {f : Addr} {fd : FuncData} (Fu : Fun K "_law_text" "_law_text" s__law_text f fd) (T : Bn mg) (h__law_take : Fd P w K mg bs cl "_law_take" 1 m__law_take [] []) : FnG P w K mg bs 2 f fd ["_law_bag_here"] (SpF ⟨K, cl⟩ m__law_text) := by
  refine fun_g Fu sc__law_text fun cdv A out s H E C => ?_
  unfold b__law_text
  exact ⟨_, (sb_cons (ss_setV 1 sc__law_text.nd (se_m C PySem.F.plainAttrs_str PySem.F.slot_str_join PySem.F.type_str_join (r_join C) v_join se_str (sa_cons (se_lc [("_law_k", 2)] C.calm sc__law_text.nd (si_range1 T.range (sa_cons (se_fn C h__law_take (sa_cons (se_var 0) (sa_cons se_int sa_nil))) sa_nil)) (blkOk_by (own := [("_law_k", 2)]) (N := N__law_text) (sc := defScope s__law_text) (by decide +kernel)) (fun _ _ _ _ _ => (sg_name 2 sc__law_text.nd (by decide))) (fun _ _ _ _ _ => sps_nil) (fun _ _ _ _ _ => (se_ix (r_ix C.blk) v_ix se_str (se_fn C.blk h__law_take (sa_cons (se_var 0) (sa_cons se_int sa_nil)))))) sa_nil)))
    (sb_cons (ss_if (sq_cmp op_gt v_gt (se_fn C h__law_take (sa_cons (se_var 0) (sa_cons se_int sa_nil))) se_int (nomark _)) (sb_one (ss_ret (se_var 1))) sb_nil)
    (sb_cons (ss_setV 3 sc__law_text.nd (se_fn C h__law_take (sa_cons (se_var 0) (sa_cons (se_bin (or_add C) v_add (se_callB (r_len C) v_len T.len (by decide +kernel) (sa_cons (se_var 1) sa_nil)) se_int) sa_nil))))
    (sb_one (ss_ret (se_bin (or_add C) v_add (se_bin (or_add C) v_add (se_slice C (se_var 1) sp_no (sp_some (se_var 3))) (se_ix (r_ix C) v_ix (se_lst (sa_cons se_str (sa_cons se_str (sa_cons se_str (sa_cons se_str (sa_cons se_str (sa_cons se_str (sa_cons se_str (sa_cons se_str (sa_cons se_str sa_nil)))))))))) (se_fn C h__law_take (sa_cons (se_var 0) (sa_cons se_int sa_nil))))) (se_slice C (se_var 1) (sp_some (se_var 3)) sp_no)))))))⟩

abbrev s__law_thing : Stmt := top 11
abbrev N__law_thing : List Str := ["_law_bag_here", "_law_some", "_law_thing_here"]
theorem sc__law_thing : FnScope N__law_thing ["_law_bag_here"] (defScope s__law_thing) := ⟨rfl, rfl, rfl, by decide +kernel, rfl, by decide +kernel, by decide +kernel⟩
def b__law_thing : EV → Out (Fl × EV) :=
  (sSeq (sSetV 1 1 (mLst (aCons (mC (.int 0)) (aCons (mC (.int 1)) (aCons (m1 negD (mC (.int 1))) (aCons (mFn m__law_take [] (aCons (mVar 0) (aCons (m2 powD (mC (.int 10)) (mC (.int 12))) aNil))) (aCons (m2 powD (mC (.int 10)) (mC (.int 60))) (aCons (m2 subD (mC (.int 1)) (m2 powD (mC (.int 10)) (mC (.int 45)))) (aCons (mC (.bool true)) (aCons (mC (.bool false)) (aCons (mC .none) aNil)))))))))))
    (sSeq (sSetV 1 2 (m2 ixD (m2 addD (mVar 1) (mLst (aCons (mFn m__law_text [] (aCons (mVar 0) aNil)) (aCons (mFn m__law_text [] (aCons (mVar 0) aNil)) aNil)))) (mFn m__law_take [] (aCons (mVar 0) (aCons (mC (.int 11)) aNil)))))
    (sRet 1 (m2 ixD (mLst (aCons (mVar 2) (aCons (mVar 2) (aCons (mVar 2) (aCons (mLst (aCons (mVar 2) aNil)) (aCons (mTup (aCons (mVar 2) aNil)) (aCons (mDisp (((mC (.str "a")), (mVar 2)) :: [])) aNil))))))) (mFn m__law_take [] (aCons (mVar 0) (aCons (mC (.int 6)) aNil)))))))
def m__law_thing : Mf := runF 1 3 b__law_thing
theorem ok__law_thing {f : Addr} {fd : FuncData} (Fu : Fun K "_law_thing" "_law_thing" s__law_thing f fd) (T : Bn mg) (h__law_take : Fd P w K mg bs cl "_law_take" 1 m__law_take [] []) (h__law_text : Fd P w K mg bs cl "_law_text" 2 m__law_text [] []) : FnG P w K mg bs 3 f fd ["_law_bag_here"] (SpF ⟨K, cl⟩ m__law_thing) := by
  refine fun_g Fu sc__law_thing fun cdv A out s H E C => ?_
  unfold b__law_thing
  exact ⟨_, (sb_cons (ss_setV 1 sc__law_thing.nd (se_lst (sa_cons se_int (sa_cons se_int (sa_cons (se_un un_neg v_neg se_int) (sa_cons (se_fn C h__law_take (sa_cons (se_var 0) (sa_cons (se_bin op_pow v_pow se_int se_int) sa_nil))) (sa_cons (se_bin op_pow v_pow se_int se_int) (sa_cons (se_bin op_sub v_sub se_int (se_bin op_pow v_pow se_int se_int)) (sa_cons se_bl (sa_cons se_bl (sa_cons se_non sa_nil)))))))))))
    (sb_cons (ss_setV 2 sc__law_thing.nd (se_ix (r_ix C) v_ix (se_bin (or_add C) v_add (se_var 1) (se_lst (sa_cons (se_fn C h__law_text (sa_cons (se_var 0) sa_nil)) (sa_cons (se_fn C h__law_text (sa_cons (se_var 0) sa_nil)) sa_nil)))) (se_fn C h__law_take (sa_cons (se_var 0) (sa_cons se_int sa_nil)))))
    (sb_one (ss_ret (se_ix (r_ix C) v_ix (se_lst (sa_cons (se_var 2) (sa_cons (se_var 2) (sa_cons (se_var 2) (sa_cons (se_lst (sa_cons (se_var 2) sa_nil)) (sa_cons (se_tup (sa_cons (se_var 2) sa_nil)) (sa_cons (se_disp (SPp.cons se_str (se_var 2) SPp.nil)) sa_nil))))))) (se_fn C h__law_take (sa_cons (se_var 0) (sa_cons se_int sa_nil))))))))⟩

abbrev s_law : Stmt := top 12
abbrev N_law : List Str := ["_law_script", "_law_bag_here", "_law_turn", "_law_thing_here", "_law_shown", "_law_due", "_law_again", "_law_deep", "_law_k"]
theorem sc_law : FnScope N_law ["_law_script"] (defScope s_law) := ⟨rfl, rfl, rfl, by decide +kernel, rfl, by decide +kernel, by decide +kernel⟩
def b_law : EV → Out (Fl × EV) :=
  (sSeq (sSetO 1 1 (mFn m__law_bag [] (aCons (mVar 0) aNil)))
    (sSeq (sFor (iR1 (aCons (mC (.int 24)) aNil)) (gN 1 2) (sSeq (sSetV 1 3 (mFn m__law_thing [] (aCons (mVar 1) aNil)))
    (sSeq (sPar2 1 4 false 5 false (mN reprA (aCons (mVar 3) aNil)) (mLst (aCons (mFn m__law_whole [] (aCons (mVar 3) aNil)) (aCons (mFn m__law_is_name [] (aCons (mVar 3) aNil)) aNil))))
    (sFor (iR1 (aCons (mC (.int 2)) aNil)) (gN 1 6) (sIf (mOr (mNot (mB (mFn m__law_alike [] (aCons (mLst (aCons (mFn m_is_integer [] (aCons (mVar 3) aNil)) (aCons (mFn m_is_name [] (aCons (mVar 3) aNil)) aNil))) (aCons (mVar 5) aNil))))) (mB (m2 neD (mN reprA (aCons (mVar 3) aNil)) (mVar 4)))) (sRet 1 (mC (.bool false))) sNext)))))
    (sSeq (sSetV 1 7 (mC (.str "a")))
    (sSeq (sFor (iR1 (aCons (mC (.int 20)) aNil)) (gN 1 8) (sSetV 1 7 (m2 ixD (mLst (aCons (mLst (aCons (mVar 7) aNil)) (aCons (mTup (aCons (mVar 7) aNil)) aNil))) (m2 modD (mVar 8) (mC (.int 2))))))
    (sSeq (sFor (iQ (mLst (aCons (m2 mulA (mLst (aCons (mC (.int 0)) aNil)) (mC (.int 19990))) (aCons (mVar 7) (aCons (m2 mulA (mTup (aCons (mTup (aCons (mC (.str "a")) aNil)) aNil)) (mC (.int 9990))) (aCons (m2 mulA (mC (.str "a")) (mC (.int 9000))) (aCons (mDisp (((mC (.str "a")), (m2 mulA (mLst (aCons (mC (.int 0)) aNil)) (mC (.int 19980)))) :: [])) aNil))))))) (gN 1 3) (sIf (mOr (mB (m2 notB (mFn m_is_integer [] (aCons (mVar 3) aNil)) (mC (.bool false)))) (mB (m2 notB (mFn m_is_name [] (aCons (mVar 3) aNil)) (mC (.bool false))))) (sRet 1 (mC (.bool false))) sNext))
    (sRet 1 (mC (.bool true))))))))
def m_law : Mf := runF 1 9 b_law
theorem ok_law {f : Addr} {fd : FuncData} (Fu : Fun K "law" "law" s_law f fd) (T : Bn mg) (h_is_integer : Fd P w K mg bs cl "is_integer" 1 m_is_integer [] []) (h_is_name : Fd P w K mg bs cl "is_name" 1 m_is_name [] []) (h__law_alike : Fd P w K mg bs cl "_law_alike" 1 m__law_alike [] []) (h__law_is_name : Fd P w K mg bs cl "_law_is_name" 1 m__law_is_name [] []) (h__law_whole : Fd P w K mg bs cl "_law_whole" 1 m__law_whole [] []) (h__law_thing : Fd P w K mg bs cl "_law_thing" 3 m__law_thing [] []) (h__law_bag : Fd P w K mg bs cl "_law_bag" 1 m__law_bag [] []) : FnG P w K mg bs 4 f fd ["_law_script"] (SpF ⟨K, cl⟩ m_law) := by
  refine fun_g Fu sc_law fun cdv A out s H E C => ?_
  unfold b_law
  exact ⟨_, (sb_cons (ss_setO 1 sc_law.nd (se_fn C h__law_bag (sa_cons (se_var 0) sa_nil)))
    (sb_cons (ss_for (vs := [2]) own_passes C.calm (si_range1 T.range (sa_cons se_int sa_nil)) (sg_name 2 sc_law.nd (by decide)) (sb_cons (ss_setV 3 sc_law.nd (se_fn C h__law_thing (sa_cons (se_var 1) sa_nil)))
    (sb_cons (ss_par2 4 false 5 false C.calm sc_law.nd (se_callB (or_repr C) v_reprA T.repr (by decide +kernel) (sa_cons (se_var 3) sa_nil)) (se_lst (sa_cons (se_fn C h__law_whole (sa_cons (se_var 3) sa_nil)) (sa_cons (se_fn C h__law_is_name (sa_cons (se_var 3) sa_nil)) sa_nil))))
    (sb_one (ss_for (vs := [6]) own_passes C.calm (si_range1 T.range (sa_cons se_int sa_nil)) (sg_name 6 sc_law.nd (by decide)) (sb_one (ss_if (sq_w (sw_or (sq_not (sq_val (se_fn C h__law_alike (sa_cons (se_lst (sa_cons (se_fn C h_is_integer (sa_cons (se_var 3) sa_nil)) (sa_cons (se_fn C h_is_name (sa_cons (se_var 3) sa_nil)) sa_nil))) (sa_cons (se_var 5) sa_nil))))) (sw_or1 (sq_cmp (r_ne C) v_ne (se_callB (or_repr C) v_reprA T.repr (by decide +kernel) (sa_cons (se_var 3) sa_nil)) (se_var 4) (nomark _))))) (sb_one (ss_ret se_bl)) sb_nil)))))))
    (sb_cons (ss_setV 7 sc_law.nd se_str)
    (sb_cons (ss_for (vs := [8]) own_passes C.calm (si_range1 T.range (sa_cons se_int sa_nil)) (sg_name 8 sc_law.nd (by decide)) (sb_one (ss_setV 7 sc_law.nd (se_ix (r_ix C) v_ix (se_lst (sa_cons (se_lst (sa_cons (se_var 7) sa_nil)) (sa_cons (se_tup (sa_cons (se_var 7) sa_nil)) sa_nil))) (se_bin op_mod v_mod (se_var 8) se_int)))))
    (sb_cons (ss_for (vs := [3]) own_passes C.calm (si_seq C (se_lst (sa_cons (se_bin (or_mulA C) v_mulA (se_lst (sa_cons se_int sa_nil)) se_int) (sa_cons (se_var 7) (sa_cons (se_bin (or_mulA C) v_mulA (se_tup (sa_cons (se_tup (sa_cons se_str sa_nil)) sa_nil)) se_int) (sa_cons (se_bin (or_mulA C) v_mulA se_str se_int) (sa_cons (se_disp (SPp.cons se_str (se_bin (or_mulA C) v_mulA (se_lst (sa_cons se_int sa_nil)) se_int) SPp.nil)) sa_nil))))))) (sg_name 3 sc_law.nd (by decide)) (sb_one (ss_if (sq_w (sw_or (sq_cmp op_isnot_bl v_notB (se_fn C h_is_integer (sa_cons (se_var 3) sa_nil)) se_bl (nomark _)) (sw_or1 (sq_cmp op_isnot_bl v_notB (se_fn C h_is_name (sa_cons (se_var 3) sa_nil)) se_bl (nomark _))))) (sb_one (ss_ret se_bl)) sb_nil)))
    (sb_one (ss_ret se_bl)))))))⟩
end
theorem all_mk {l : PySem.W.OpenLaw} {w : World} {K : PySem.W.Frag} {h : Heap} {mg : Str → Option Value} {fa : Addr} (X : K.In h) (G : h.Ns mainGlobals mg) (hfa : mg "law" = some (.ref fa))
    {t_LONGEST_NAME : Nat}
    {f0 : Addr} {od0 an0 : Option Addr} {sl0 : Array (Option Value)} {oc0 kV0 dc0 pm0 cd0 ct0 : Value}
    {f1 : Addr} {od1 an1 : Option Addr} {sl1 : Array (Option Value)} {oc1 kV1 dc1 pm1 cd1 ct1 : Value}
    {f2 : Addr} {od2 an2 : Option Addr} {sl2 : Array (Option Value)} {oc2 kV2 dc2 pm2 cd2 ct2 : Value}
    {f3 : Addr} {od3 an3 : Option Addr} {sl3 : Array (Option Value)} {oc3 kV3 dc3 pm3 cd3 ct3 : Value}
    {f4 : Addr} {od4 an4 : Option Addr} {sl4 : Array (Option Value)} {oc4 kV4 dc4 pm4 cd4 ct4 : Value}
    {f5 : Addr} {od5 an5 : Option Addr} {sl5 : Array (Option Value)} {oc5 kV5 dc5 pm5 cd5 ct5 : Value}
    {f6 : Addr} {od6 an6 : Option Addr} {sl6 : Array (Option Value)} {oc6 kV6 dc6 pm6 cd6 ct6 : Value}
    {f7 : Addr} {od7 an7 : Option Addr} {sl7 : Array (Option Value)} {oc7 kV7 dc7 pm7 cd7 ct7 : Value}
    {f8 : Addr} {od8 an8 : Option Addr} {sl8 : Array (Option Value)} {oc8 kV8 dc8 pm8 cd8 ct8 : Value}
    {f9 : Addr} {od9 an9 : Option Addr} {sl9 : Array (Option Value)} {oc9 kV9 dc9 pm9 cd9 ct9 : Value}
    (g_LONGEST_NAME : PySem.W.nsIn K mainGlobals "LONGEST_NAME" = some (some (Value.int 8 t_LONGEST_NAME)))
    (a0 : PySem.W.nsIn K mainGlobals "is_integer" = some (some (.ref f0))) (l0 : K.lookup f0 = some ⟨oc0, od0, .func (PySem.W.fnOf "is_integer" "is_integer" (defArgs s_is_integer) (defBody s_is_integer) (defScope s_is_integer) .none kV0 dc0 pm0 an0 cd0 ct0), sl0⟩) (c0 : PySem.W.codeIn K cd0 "is_integer" = true) (k0 : PySem.W.keepIn K (.ref f0) = true)
    (a1 : PySem.W.nsIn K mainGlobals "is_name" = some (some (.ref f1))) (l1 : K.lookup f1 = some ⟨oc1, od1, .func (PySem.W.fnOf "is_name" "is_name" (defArgs s_is_name) (defBody s_is_name) (defScope s_is_name) .none kV1 dc1 pm1 an1 cd1 ct1), sl1⟩) (c1 : PySem.W.codeIn K cd1 "is_name" = true) (k1 : PySem.W.keepIn K (.ref f1) = true)
    (a2 : PySem.W.nsIn K mainGlobals "_law_bag" = some (some (.ref f2))) (l2 : K.lookup f2 = some ⟨oc2, od2, .func (PySem.W.fnOf "_law_bag" "_law_bag" (defArgs s__law_bag) (defBody s__law_bag) (defScope s__law_bag) .none kV2 dc2 pm2 an2 cd2 ct2), sl2⟩) (c2 : PySem.W.codeIn K cd2 "_law_bag" = true) (k2 : PySem.W.keepIn K (.ref f2) = true)
    (a3 : PySem.W.nsIn K mainGlobals "_law_take" = some (some (.ref f3))) (l3 : K.lookup f3 = some ⟨oc3, od3, .func (PySem.W.fnOf "_law_take" "_law_take" (defArgs s__law_take) (defBody s__law_take) (defScope s__law_take) .none kV3 dc3 pm3 an3 cd3 ct3), sl3⟩) (c3 : PySem.W.codeIn K cd3 "_law_take" = true) (k3 : PySem.W.keepIn K (.ref f3) = true)
    (a4 : PySem.W.nsIn K mainGlobals "_law_alike" = some (some (.ref f4))) (l4 : K.lookup f4 = some ⟨oc4, od4, .func (PySem.W.fnOf "_law_alike" "_law_alike" (defArgs s__law_alike) (defBody s__law_alike) (defScope s__law_alike) .none kV4 dc4 pm4 an4 cd4 ct4), sl4⟩) (c4 : PySem.W.codeIn K cd4 "_law_alike" = true) (k4 : PySem.W.keepIn K (.ref f4) = true)
    (a5 : PySem.W.nsIn K mainGlobals "_law_whole" = some (some (.ref f5))) (l5 : K.lookup f5 = some ⟨oc5, od5, .func (PySem.W.fnOf "_law_whole" "_law_whole" (defArgs s__law_whole) (defBody s__law_whole) (defScope s__law_whole) .none kV5 dc5 pm5 an5 cd5 ct5), sl5⟩) (c5 : PySem.W.codeIn K cd5 "_law_whole" = true) (k5 : PySem.W.keepIn K (.ref f5) = true)
    (a6 : PySem.W.nsIn K mainGlobals "_law_is_name" = some (some (.ref f6))) (l6 : K.lookup f6 = some ⟨oc6, od6, .func (PySem.W.fnOf "_law_is_name" "_law_is_name" (defArgs s__law_is_name) (defBody s__law_is_name) (defScope s__law_is_name) .none kV6 dc6 pm6 an6 cd6 ct6), sl6⟩) (c6 : PySem.W.codeIn K cd6 "_law_is_name" = true) (k6 : PySem.W.keepIn K (.ref f6) = true)
    (a7 : PySem.W.nsIn K mainGlobals "_law_text" = some (some (.ref f7))) (l7 : K.lookup f7 = some ⟨oc7, od7, .func (PySem.W.fnOf "_law_text" "_law_text" (defArgs s__law_text) (defBody s__law_text) (defScope s__law_text) .none kV7 dc7 pm7 an7 cd7 ct7), sl7⟩) (c7 : PySem.W.codeIn K cd7 "_law_text" = true) (k7 : PySem.W.keepIn K (.ref f7) = true)
    (a8 : PySem.W.nsIn K mainGlobals "_law_thing" = some (some (.ref f8))) (l8 : K.lookup f8 = some ⟨oc8, od8, .func (PySem.W.fnOf "_law_thing" "_law_thing" (defArgs s__law_thing) (defBody s__law_thing) (defScope s__law_thing) .none kV8 dc8 pm8 an8 cd8 ct8), sl8⟩) (c8 : PySem.W.codeIn K cd8 "_law_thing" = true) (k8 : PySem.W.keepIn K (.ref f8) = true)
    (a9 : PySem.W.nsIn K mainGlobals "law" = some (some (.ref f9))) (l9 : K.lookup f9 = some ⟨oc9, od9, .func (PySem.W.fnOf "law" "law" (defArgs s_law) (defBody s_law) (defScope s_law) .none kV9 dc9 pm9 an9 cd9 ct9), sl9⟩) (c9 : PySem.W.codeIn K cd9 "law" = true) (k9 : PySem.W.keepIn K (.ref f9) = true)
    (n_len : PySem.W.nsIn K mainGlobals "len" = some none)
    (n_range : PySem.W.nsIn K mainGlobals "range" = some none)
    (n_isinstance : PySem.W.nsIn K mainGlobals "isinstance" = some none)
    (n_all : PySem.W.nsIn K mainGlobals "all" = some none)
    (n_any : PySem.W.nsIn K mainGlobals "any" = some none)
    (n_tuple : PySem.W.nsIn K mainGlobals "tuple" = some none)
    (n_list : PySem.W.nsIn K mainGlobals "list" = some none)
    (n_sorted : PySem.W.nsIn K mainGlobals "sorted" = some none)
    (n_set : PySem.W.nsIn K mainGlobals "set" = some none)
    (n_sum : PySem.W.nsIn K mainGlobals "sum" = some none)
    (n_repr : PySem.W.nsIn K mainGlobals "repr" = some none)
    (n_int : PySem.W.nsIn K mainGlobals "int" = some none)
    (n_abs : PySem.W.nsIn K mainGlobals "abs" = some none)
    (n_max : PySem.W.nsIn K mainGlobals "max" = some none)
    (n_min : PySem.W.nsIn K mainGlobals "min" = some none)
    (n_enumerate : PySem.W.nsIn K mainGlobals "enumerate" = some none)
    (n_zip : PySem.W.nsIn K mainGlobals "zip" = some none)
    (n_str : PySem.W.nsIn K mainGlobals "str" = some none)
    (n_bool : PySem.W.nsIn K mainGlobals "bool" = some none)
    (n_dict : PySem.W.nsIn K mainGlobals "dict" = some none) :
    ∃ fd : FuncData, (∀ (s : Shared) (v : Value), BindsTo s fd ⟨[v], []⟩ [("_law_script", v)]) ∧ ∀ bs : Heap, K.In bs → bs.Ns mainGlobals mg → FnG l.prog w K mg bs 4 fa fd ["_law_script"] (SpF ⟨K, fun _ => 0⟩ m_law) := by
  have e := hfa.symm.trans (PySem.W.mg_of X G a9)
  cases e
  have T : Bn mg := ⟨PySem.W.mg_none_of X G n_len, PySem.W.mg_none_of X G n_range, PySem.W.mg_none_of X G n_isinstance, PySem.W.mg_none_of X G n_all, PySem.W.mg_none_of X G n_any, PySem.W.mg_none_of X G n_tuple, PySem.W.mg_none_of X G n_list, PySem.W.mg_none_of X G n_sorted, PySem.W.mg_none_of X G n_set, PySem.W.mg_none_of X G n_sum, PySem.W.mg_none_of X G n_repr, PySem.W.mg_none_of X G n_int, PySem.W.mg_none_of X G n_abs, PySem.W.mg_none_of X G n_max, PySem.W.mg_none_of X G n_min, PySem.W.mg_none_of X G n_enumerate, PySem.W.mg_none_of X G n_zip, PySem.W.mg_none_of X G n_str, PySem.W.mg_none_of X G n_bool, PySem.W.mg_none_of X G n_dict⟩
  have c_LONGEST_NAME := gc_int X G g_LONGEST_NAME
  have F0 := fun_mk (st := s_is_integer) l0 c0 k0
  have F1 := fun_mk (st := s_is_name) l1 c1 k1
  have F2 := fun_mk (st := s__law_bag) l2 c2 k2
  have F3 := fun_mk (st := s__law_take) l3 c3 k3
  have F4 := fun_mk (st := s__law_alike) l4 c4 k4
  have F5 := fun_mk (st := s__law_whole) l5 c5 k5
  have F6 := fun_mk (st := s__law_is_name) l6 c6 k6
  have F7 := fun_mk (st := s__law_text) l7 c7 k7
  have F8 := fun_mk (st := s__law_thing) l8 c8 k8
  have F9 := fun_mk (st := s_law) l9 c9 k9
  refine ⟨PySem.W.fnOf "law" "law" (defArgs s_law) (defBody s_law) (defScope s_law) .none kV9 dc9 pm9 an9 cd9 ct9, fun s v => .of_eq rfl, fun bs _ _ => ?_⟩
  · have h_is_integer : Fd l.prog w K mg bs (fun _ => 0) "is_integer" 1 m_is_integer [] [] := ⟨⟨_, _, _, _, ok_is_integer F0 T, PySem.W.mg_of X G a0, k0, F0.binds (ps := ["thing"]) (fun _ _ _ _ _ _ us hl => match us, hl with | [_], _ => rfl), .nil, fun _ => .nil⟩⟩
    have h_is_name : Fd l.prog w K mg bs (fun _ => 0) "is_name" 1 m_is_name [] [] := ⟨⟨_, _, _, _, ok_is_name F1 T c_LONGEST_NAME, PySem.W.mg_of X G a1, k1, F1.binds (ps := ["thing"]) (fun _ _ _ _ _ _ us hl => match us, hl with | [_], _ => rfl), .nil, fun _ => .nil⟩⟩
    have h__law_bag : Fd l.prog w K mg bs (fun _ => 0) "_law_bag" 1 m__law_bag [] [] := ⟨⟨_, _, _, _, ok__law_bag F2 T, PySem.W.mg_of X G a2, k2, F2.binds (ps := ["_law_script"]) (fun _ _ _ _ _ _ us hl => match us, hl with | [_], _ => rfl), .nil, fun _ => .nil⟩⟩
    have h__law_take : Fd l.prog w K mg bs (fun _ => 0) "_law_take" 1 m__law_take [] [] := ⟨⟨_, _, _, _, ok__law_take F3 T, PySem.W.mg_of X G a3, k3, F3.binds (ps := ["_law_bag_here", "_law_many"]) (fun _ _ _ _ _ _ us hl => match us, hl with | [_, _], _ => rfl), .nil, fun _ => .nil⟩⟩
    have h__law_alike : Fd l.prog w K mg bs (fun _ => 0) "_law_alike" 1 m__law_alike [] [] := ⟨⟨_, _, _, _, ok__law_alike F4 T, PySem.W.mg_of X G a4, k4, F4.binds (ps := ["_law_found", "_law_due"]) (fun _ _ _ _ _ _ us hl => match us, hl with | [_, _], _ => rfl), .nil, fun _ => .nil⟩⟩
    have h__law_whole : Fd l.prog w K mg bs (fun _ => 0) "_law_whole" 1 m__law_whole [] [] := ⟨⟨_, _, _, _, ok__law_whole F5 T, PySem.W.mg_of X G a5, k5, F5.binds (ps := ["_law_thing_here"]) (fun _ _ _ _ _ _ us hl => match us, hl with | [_], _ => rfl), .nil, fun _ => .nil⟩⟩
    have h__law_is_name : Fd l.prog w K mg bs (fun _ => 0) "_law_is_name" 1 m__law_is_name [] [] := ⟨⟨_, _, _, _, ok__law_is_name F6 T, PySem.W.mg_of X G a6, k6, F6.binds (ps := ["_law_thing_here"]) (fun _ _ _ _ _ _ us hl => match us, hl with | [_], _ => rfl), .nil, fun _ => .nil⟩⟩
    have h__law_text : Fd l.prog w K mg bs (fun _ => 0) "_law_text" 2 m__law_text [] [] := ⟨⟨_, _, _, _, ok__law_text F7 T h__law_take, PySem.W.mg_of X G a7, k7, F7.binds (ps := ["_law_bag_here"]) (fun _ _ _ _ _ _ us hl => match us, hl with | [_], _ => rfl), .nil, fun _ => .nil⟩⟩
    have h__law_thing : Fd l.prog w K mg bs (fun _ => 0) "_law_thing" 3 m__law_thing [] [] := ⟨⟨_, _, _, _, ok__law_thing F8 T h__law_take h__law_text, PySem.W.mg_of X G a8, k8, F8.binds (ps := ["_law_bag_here"]) (fun _ _ _ _ _ _ us hl => match us, hl with | [_], _ => rfl), .nil, fun _ => .nil⟩⟩
    exact ok_law F9 T h_is_integer h_is_name h__law_alike h__law_is_name h__law_whole h__law_thing h__law_bag
end K12
namespace K12
open PySem L2 Fr
def wholeB : D → Bool
  | .int _ => true
  | _ => false
theorem isi_ok {T : Ty} {ρ : EV} {i : Nat} {t : D} {Q : Rv × EV → Prop} (e : ρ[i]? = some (some (.val t))) (h : isObj t = false) (q : Q (.val (.bool (isiB T t)), ρ)) : W (mIsi T (mVar i) ρ) Q := by
  unfold mIsi
  refine w_m1 (w_var e ⟨t, .val (.bool (isiB T t)), rfl, ?_, q⟩)
  rw [if_neg (by rw [h]; decide)]
theorem integer_ok {t : D} (h : isObj t = false) {Q : Rv × EV → Prop} (q : Q (.val (.bool (wholeB t)), [some (.val t)])) : W (m_is_integer [some (.val t)]) Q := by
  unfold m_is_integer b_is_integer
  refine w_run rfl ?_
  refine w_ret (w_andV (w_mB (isi_ok rfl h ⟨_, rfl, fun h1 => ?_, fun h1 => ?_⟩)))
  · refine w_notV (w_mB (isi_ok rfl h ⟨_, rfl, ?_⟩))
    dsimp only at h1 ⊢
    cases t <;> first | exact q | cases h1
  · dsimp only at h1 ⊢
    cases t <;> first | exact q | cases h1
theorem whole_ok {t : D} (h : isObj t = false) {Q : Rv × EV → Prop} (q : Q (.val (.bool (wholeB t)), [some (.val t)])) : W (m__law_whole [some (.val t)]) Q := integer_ok h q
def nameB : D → Bool
  | .str z => decide (1 ≤ z.length ∧ z.length ≤ 8) && z.cps.all fun c => decide (97 ≤ c ∧ c ≤ 122)
  | _ => false
theorem lowers : ∀ c, c < 128 → (Unicode.isAlpha c && !(Unicode.isUpper c || Unicode.isTitle c)) = decide (97 ≤ c ∧ c ≤ 122) := by decide +kernel
theorem lowers2 : ∀ c, c < 128 → Unicode.isLower c = decide (97 ≤ c ∧ c ≤ 122) := by decide +kernel
theorem text_b (z : Str) (h : 1 ≤ z.length) : (Txt.isascii z && (Txt.isalpha z && Txt.islower z)) = z.cps.all fun c => decide (97 ≤ c ∧ c ≤ 122) := by
  unfold Txt.isascii Txt.isalpha Txt.islower
  rw [Bool.eq_iff_iff]
  simp only [Bool.and_eq_true, Bool.not_eq_true', ← Array.all_toList, ← Array.any_toList, List.all_eq_true, List.any_eq_true, List.any_eq_false, decide_eq_true_eq, gt_iff_lt]
  constructor
  · rintro ⟨h1, ⟨h2, h3⟩, h4, h5⟩ c hc
    have := lowers c (h1 c hc)
    have k := h5 c hc
    rw [h3 c hc] at this
    simp only [Bool.not_eq_true] at k
    rw [k] at this
    simpa using this.symm
  · intro h1
    have sm : ∀ c ∈ z.cps.toList, c < 128 := fun c hc => by have := h1 c hc; omega
    refine ⟨sm, ⟨h, fun c hc => ?_⟩, ?_, fun c hc => ?_⟩
    · have := lowers c (sm c hc)
      rw [decide_eq_true (h1 c hc), Bool.and_eq_true] at this
      exact this.1
    · have hs : 0 < z.cps.size := h
      refine ⟨z.cps[0], Array.getElem_mem_toList hs, ?_⟩
      rw [lowers2 _ (sm _ (Array.getElem_mem_toList hs))]
      exact decide_eq_true (h1 _ (Array.getElem_mem_toList hs))
    · have := lowers c (sm c hc)
      rw [decide_eq_true (h1 c hc), Bool.and_eq_true] at this
      simpa using this.2
theorem name_ok {t : D} (h : isObj t = false) (hl : ∀ z, t = .str z → z.length ≤ 1000000) {Q : Rv × EV → Prop} (q : Q (.val (.bool (nameB t)), [some (.val t)])) : W (m_is_name [some (.val t)]) Q := by
  unfold m_is_name b_is_name
  refine w_run rfl ?_
  dsimp only [List.replicate, List.append_nil, Nat.reduceSub]
  cases t with
  | str z =>
    have hz := hl z rfl
    have hs : z.length ≤ sizeLine := Nat.le_trans hz size_big
    have e : lenD [.str z] = some (.val (.int z.length)) := by simp only [lenD, one, lenD1, if_pos hs]
    repeat ((first | (with_reducible refine w_varE ?_; refine ⟨_, rfl, ?_⟩) | (with_reducible refine w_varF ?_; refine ⟨⟨_, rfl⟩, ?_⟩) | (with_reducible refine w_seq ?_) | (with_reducible refine w_if ?_) | (with_reducible refine w_and ?_) | (with_reducible refine w_or ?_) | (with_reducible refine w_not ?_) | (with_reducible refine w_ite ?_) | (with_reducible refine w_expr ?_) | (with_reducible refine w_ret ?_) | (with_reducible refine w_setV ?_) | (with_reducible refine w_setO ?_) | (with_reducible refine w_m2 ?_) | (with_reducible refine w_m1 ?_) | (with_reducible refine w_mB ?_) | (with_reducible refine w_mCh ?_) | (with_reducible refine w_andV ?_) | (with_reducible refine w_orV ?_) | (with_reducible refine w_notV ?_) | (with_reducible refine w_c ?_) | (with_reducible refine w_acons ?_) | (with_reducible refine w_anil ?_) | (with_reducible refine w_n ?_) | (with_reducible refine w_lst ?_) | (with_reducible refine w_tup ?_) | (with_reducible refine w_next ?_) | (with_reducible refine w_brk ?_) | (with_reducible refine w_cont ?_) | (with_reducible refine w_iR1 ?_) | (with_reducible refine w_iR2 ?_) | (with_reducible refine w_iQ ?_) | (with_reducible refine w_par2 ?_) | (with_reducible refine w_fzF ?_) | (with_reducible refine w_fzT ?_) | (with_reducible refine w_sub ?_) | (with_reducible refine w_yes ?_) | (with_reducible refine w_m ?_) | (with_reducible refine w_isi ?_) | (with_reducible refine w_sl ?_) | (with_reducible refine w_pNo ?_) | (with_reducible refine w_pI ?_) | (with_reducible refine w_disp ?_) | (with_reducible refine w_dnil ?_) | (with_reducible refine w_dcons ?_) | (with_reducible refine w_sTup ?_) | (with_reducible refine w_subAdd ⟨_, rfl⟩ ?_) | ((fail_if_success (with_reducible refine W.idt ?_)); first | (refine ⟨_, _, _, rfl, rfl, (by first | exact eqD_int _ _ | exact neD_int _ _ | exact addD_int _ _ | exact subD_int _ _ | exact eqD_str _ _ | exact neD_str _ _ | (rw [ixD_list]; rfl) | (rw [ixD_tuple]; rfl) | exact powD_int _ _ (by decide) | exact modD_int _ _ (by omega) | exact mulA_int _ _ (cmul_small (by constructor <;> omega) (by constructor <;> omega)) | exact divD_int _ _ (cdiv_small (by constructor <;> omega)) | exact (rfl : ltD (.int _) (.int _) = _) | exact (rfl : leD (.int _) (.int _) = _) | exact (rfl : gtD (.int _) (.int _) = _) | exact (rfl : geD (.int _) (.int _) = _)), ?_⟩) | (refine ⟨_, _, _, rfl, rfl, rfl, ?_⟩) | (refine ⟨_, rfl, ⟨_, rfl⟩, ?_⟩) | (refine ⟨_, rfl, rfl, ?_⟩) | (refine ⟨_, rfl, (by assumption : Fr.isObj _ = false), ?_⟩) | (refine ⟨_, _, rfl, (by assumption : (_ : Option Sl) = some _), ?_⟩) | (refine ⟨_, _, _, rfl, rfl, (by assumption : (_ : Option Sl) = some _), ?_⟩) | (refine ⟨_, _, rfl, rfl, ?_⟩) | (refine ⟨_, rfl, Nat.le_of_ble_eq_true rfl, ?_⟩) | (refine ⟨_, rfl, (by omega), (by omega), ?_⟩) | (refine ⟨_, _, rfl, (by omega), ?_⟩) | (refine ⟨_, rfl, ?_⟩) | (refine .inl ⟨_, .inl rfl, ?_⟩) | (refine .inl ⟨_, .inr rfl, ?_⟩) | (refine .inr ⟨_, rfl, ?_⟩))); try dsimp only [List.set_cons_zero, List.set_cons_succ])
    refine ⟨fun hc => (by cases hc), fun _ => ?_⟩
    repeat ((first | (with_reducible refine w_varE ?_; refine ⟨_, rfl, ?_⟩) | (with_reducible refine w_varF ?_; refine ⟨⟨_, rfl⟩, ?_⟩) | (with_reducible refine w_seq ?_) | (with_reducible refine w_if ?_) | (with_reducible refine w_and ?_) | (with_reducible refine w_or ?_) | (with_reducible refine w_not ?_) | (with_reducible refine w_ite ?_) | (with_reducible refine w_expr ?_) | (with_reducible refine w_ret ?_) | (with_reducible refine w_setV ?_) | (with_reducible refine w_setO ?_) | (with_reducible refine w_m2 ?_) | (with_reducible refine w_m1 ?_) | (with_reducible refine w_mB ?_) | (with_reducible refine w_mCh ?_) | (with_reducible refine w_andV ?_) | (with_reducible refine w_orV ?_) | (with_reducible refine w_notV ?_) | (with_reducible refine w_c ?_) | (with_reducible refine w_acons ?_) | (with_reducible refine w_anil ?_) | (with_reducible refine w_n ?_) | (with_reducible refine w_lst ?_) | (with_reducible refine w_tup ?_) | (with_reducible refine w_next ?_) | (with_reducible refine w_brk ?_) | (with_reducible refine w_cont ?_) | (with_reducible refine w_iR1 ?_) | (with_reducible refine w_iR2 ?_) | (with_reducible refine w_iQ ?_) | (with_reducible refine w_par2 ?_) | (with_reducible refine w_fzF ?_) | (with_reducible refine w_fzT ?_) | (with_reducible refine w_sub ?_) | (with_reducible refine w_yes ?_) | (with_reducible refine w_m ?_) | (with_reducible refine w_isi ?_) | (with_reducible refine w_sl ?_) | (with_reducible refine w_pNo ?_) | (with_reducible refine w_pI ?_) | (with_reducible refine w_disp ?_) | (with_reducible refine w_dnil ?_) | (with_reducible refine w_dcons ?_) | (with_reducible refine w_sTup ?_) | (with_reducible refine w_subAdd ⟨_, rfl⟩ ?_) | ((fail_if_success (with_reducible refine W.idt ?_)); first | (refine ⟨_, _, _, rfl, rfl, (by first | exact eqD_int _ _ | exact neD_int _ _ | exact addD_int _ _ | exact subD_int _ _ | exact eqD_str _ _ | exact neD_str _ _ | (rw [ixD_list]; rfl) | (rw [ixD_tuple]; rfl) | exact powD_int _ _ (by decide) | exact modD_int _ _ (by omega) | exact mulA_int _ _ (cmul_small (by constructor <;> omega) (by constructor <;> omega)) | exact divD_int _ _ (cdiv_small (by constructor <;> omega)) | exact (rfl : ltD (.int _) (.int _) = _) | exact (rfl : leD (.int _) (.int _) = _) | exact (rfl : gtD (.int _) (.int _) = _) | exact (rfl : geD (.int _) (.int _) = _)), ?_⟩) | (refine ⟨_, _, _, rfl, rfl, rfl, ?_⟩) | (refine ⟨_, rfl, ⟨_, rfl⟩, ?_⟩) | (refine ⟨_, rfl, rfl, ?_⟩) | (refine ⟨_, rfl, (by assumption : Fr.isObj _ = false), ?_⟩) | (refine ⟨_, _, rfl, (by assumption : (_ : Option Sl) = some _), ?_⟩) | (refine ⟨_, _, _, rfl, rfl, (by assumption : (_ : Option Sl) = some _), ?_⟩) | (refine ⟨_, _, rfl, rfl, ?_⟩) | (refine ⟨_, rfl, Nat.le_of_ble_eq_true rfl, ?_⟩) | (refine ⟨_, rfl, (by omega), (by omega), ?_⟩) | (refine ⟨_, _, rfl, (by omega), ?_⟩) | (refine ⟨_, rfl, ?_⟩) | (refine .inl ⟨_, .inl rfl, ?_⟩) | (refine .inl ⟨_, .inr rfl, ?_⟩) | (refine .inr ⟨_, rfl, ?_⟩))); try dsimp only [List.set_cons_zero, List.set_cons_succ])
    have q' : ∀ b, b = nameB (.str z) → Q (.val (.bool b), [some (.val (.str z))]) := fun b e => e ▸ q
    repeat' (first | ((first | (with_reducible refine w_varE ?_; refine ⟨_, rfl, ?_⟩) | (with_reducible refine w_varF ?_; refine ⟨⟨_, rfl⟩, ?_⟩) | (with_reducible refine w_seq ?_) | (with_reducible refine w_if ?_) | (with_reducible refine w_and ?_) | (with_reducible refine w_or ?_) | (with_reducible refine w_not ?_) | (with_reducible refine w_ite ?_) | (with_reducible refine w_expr ?_) | (with_reducible refine w_ret ?_) | (with_reducible refine w_setV ?_) | (with_reducible refine w_setO ?_) | (with_reducible refine w_m2 ?_) | (with_reducible refine w_m1 ?_) | (with_reducible refine w_mB ?_) | (with_reducible refine w_mCh ?_) | (with_reducible refine w_andV ?_) | (with_reducible refine w_orV ?_) | (with_reducible refine w_notV ?_) | (with_reducible refine w_c ?_) | (with_reducible refine w_acons ?_) | (with_reducible refine w_anil ?_) | (with_reducible refine w_n ?_) | (with_reducible refine w_lst ?_) | (with_reducible refine w_tup ?_) | (with_reducible refine w_next ?_) | (with_reducible refine w_brk ?_) | (with_reducible refine w_cont ?_) | (with_reducible refine w_iR1 ?_) | (with_reducible refine w_iR2 ?_) | (with_reducible refine w_iQ ?_) | (with_reducible refine w_par2 ?_) | (with_reducible refine w_fzF ?_) | (with_reducible refine w_fzT ?_) | (with_reducible refine w_sub ?_) | (with_reducible refine w_yes ?_) | (with_reducible refine w_m ?_) | (with_reducible refine w_isi ?_) | (with_reducible refine w_sl ?_) | (with_reducible refine w_pNo ?_) | (with_reducible refine w_pI ?_) | (with_reducible refine w_disp ?_) | (with_reducible refine w_dnil ?_) | (with_reducible refine w_dcons ?_) | (with_reducible refine w_sTup ?_) | (with_reducible refine w_subAdd ⟨_, rfl⟩ ?_) | ((fail_if_success (with_reducible refine W.idt ?_)); first | (refine ⟨_, _, _, rfl, rfl, (by first | exact eqD_int _ _ | exact neD_int _ _ | exact addD_int _ _ | exact subD_int _ _ | exact eqD_str _ _ | exact neD_str _ _ | (rw [ixD_list]; rfl) | (rw [ixD_tuple]; rfl) | exact powD_int _ _ (by decide) | exact modD_int _ _ (by omega) | exact mulA_int _ _ (cmul_small (by constructor <;> omega) (by constructor <;> omega)) | exact divD_int _ _ (cdiv_small (by constructor <;> omega)) | exact (rfl : ltD (.int _) (.int _) = _) | exact (rfl : leD (.int _) (.int _) = _) | exact (rfl : gtD (.int _) (.int _) = _) | exact (rfl : geD (.int _) (.int _) = _)), ?_⟩) | (refine ⟨_, _, _, rfl, rfl, rfl, ?_⟩) | (refine ⟨_, rfl, ⟨_, rfl⟩, ?_⟩) | (refine ⟨_, rfl, rfl, ?_⟩) | (refine ⟨_, rfl, (by assumption : Fr.isObj _ = false), ?_⟩) | (refine ⟨_, _, rfl, (by assumption : (_ : Option Sl) = some _), ?_⟩) | (refine ⟨_, _, _, rfl, rfl, (by assumption : (_ : Option Sl) = some _), ?_⟩) | (refine ⟨_, _, rfl, rfl, ?_⟩) | (refine ⟨_, rfl, Nat.le_of_ble_eq_true rfl, ?_⟩) | (refine ⟨_, rfl, (by omega), (by omega), ?_⟩) | (refine ⟨_, _, rfl, (by omega), ?_⟩) | (refine ⟨_, rfl, ?_⟩) | (refine .inl ⟨_, .inl rfl, ?_⟩) | (refine .inl ⟨_, .inr rfl, ?_⟩) | (refine .inr ⟨_, rfl, ?_⟩))); try dsimp only [List.set_cons_zero, List.set_cons_succ]) | (refine ⟨fun hc => ?_, fun hc => ?_⟩ <;> (first | (exact absurd hc Bool.false_ne_true) | (exact absurd hc.symm Bool.false_ne_true) | (simp only [Bool.not_eq_true', Bool.not_eq_false', decide_eq_true_eq, decide_eq_false_iff_not] at hc; try dsimp only) | skip)) | fail)
    all_goals refine q' _ ?_
    all_goals show _ = (decide (1 ≤ z.length ∧ z.length ≤ 8) && z.cps.all fun c => decide (97 ≤ c ∧ c ≤ 122))
    · rw [decide_eq_false (by omega)]; rfl
    · rw [decide_eq_true (by omega), ← text_b z (by omega)]; simp [*]
    · rw [decide_eq_true (by omega), ← text_b z (by omega)]; simp [*]
    · rw [decide_eq_true (by omega), ← text_b z (by omega)]; simp [*]
    · rw [decide_eq_false (by omega)]; rfl
  | _ =>
    repeat' (first | ((first | (with_reducible refine w_varE ?_; refine ⟨_, rfl, ?_⟩) | (with_reducible refine w_varF ?_; refine ⟨⟨_, rfl⟩, ?_⟩) | (with_reducible refine w_seq ?_) | (with_reducible refine w_if ?_) | (with_reducible refine w_and ?_) | (with_reducible refine w_or ?_) | (with_reducible refine w_not ?_) | (with_reducible refine w_ite ?_) | (with_reducible refine w_expr ?_) | (with_reducible refine w_ret ?_) | (with_reducible refine w_setV ?_) | (with_reducible refine w_setO ?_) | (with_reducible refine w_m2 ?_) | (with_reducible refine w_m1 ?_) | (with_reducible refine w_mB ?_) | (with_reducible refine w_mCh ?_) | (with_reducible refine w_andV ?_) | (with_reducible refine w_orV ?_) | (with_reducible refine w_notV ?_) | (with_reducible refine w_c ?_) | (with_reducible refine w_acons ?_) | (with_reducible refine w_anil ?_) | (with_reducible refine w_n ?_) | (with_reducible refine w_lst ?_) | (with_reducible refine w_tup ?_) | (with_reducible refine w_next ?_) | (with_reducible refine w_brk ?_) | (with_reducible refine w_cont ?_) | (with_reducible refine w_iR1 ?_) | (with_reducible refine w_iR2 ?_) | (with_reducible refine w_iQ ?_) | (with_reducible refine w_par2 ?_) | (with_reducible refine w_fzF ?_) | (with_reducible refine w_fzT ?_) | (with_reducible refine w_sub ?_) | (with_reducible refine w_yes ?_) | (with_reducible refine w_m ?_) | (with_reducible refine w_isi ?_) | (with_reducible refine w_sl ?_) | (with_reducible refine w_pNo ?_) | (with_reducible refine w_pI ?_) | (with_reducible refine w_disp ?_) | (with_reducible refine w_dnil ?_) | (with_reducible refine w_dcons ?_) | (with_reducible refine w_sTup ?_) | (with_reducible refine w_subAdd ⟨_, rfl⟩ ?_) | ((fail_if_success (with_reducible refine W.idt ?_)); first | (refine ⟨_, _, _, rfl, rfl, (by first | exact eqD_int _ _ | exact neD_int _ _ | exact addD_int _ _ | exact subD_int _ _ | exact eqD_str _ _ | exact neD_str _ _ | (rw [ixD_list]; rfl) | (rw [ixD_tuple]; rfl) | exact powD_int _ _ (by decide) | exact modD_int _ _ (by omega) | exact mulA_int _ _ (cmul_small (by constructor <;> omega) (by constructor <;> omega)) | exact divD_int _ _ (cdiv_small (by constructor <;> omega)) | exact (rfl : ltD (.int _) (.int _) = _) | exact (rfl : leD (.int _) (.int _) = _) | exact (rfl : gtD (.int _) (.int _) = _) | exact (rfl : geD (.int _) (.int _) = _)), ?_⟩) | (refine ⟨_, _, _, rfl, rfl, rfl, ?_⟩) | (refine ⟨_, rfl, ⟨_, rfl⟩, ?_⟩) | (refine ⟨_, rfl, rfl, ?_⟩) | (refine ⟨_, rfl, (by assumption : Fr.isObj _ = false), ?_⟩) | (refine ⟨_, _, rfl, (by assumption : (_ : Option Sl) = some _), ?_⟩) | (refine ⟨_, _, _, rfl, rfl, (by assumption : (_ : Option Sl) = some _), ?_⟩) | (refine ⟨_, _, rfl, rfl, ?_⟩) | (refine ⟨_, rfl, Nat.le_of_ble_eq_true rfl, ?_⟩) | (refine ⟨_, rfl, (by omega), (by omega), ?_⟩) | (refine ⟨_, _, rfl, (by omega), ?_⟩) | (refine ⟨_, rfl, ?_⟩) | (refine .inl ⟨_, .inl rfl, ?_⟩) | (refine .inl ⟨_, .inr rfl, ?_⟩) | (refine .inr ⟨_, rfl, ?_⟩))); try dsimp only [List.set_cons_zero, List.set_cons_succ]) | (refine ⟨fun hc => ?_, fun hc => ?_⟩ <;> (first | (exact absurd hc Bool.false_ne_true) | (exact absurd hc.symm Bool.false_ne_true) | (simp only [Bool.not_eq_true', Bool.not_eq_false', decide_eq_true_eq, decide_eq_false_iff_not] at hc; try dsimp only) | skip)) | fail)
    all_goals exact q
theorem letters (c : Nat) : c ∈ ("abcdefghijklmnopqrstuvwxyz" : Str).cps.toList ↔ 97 ≤ c ∧ c ≤ 122 := by
  have e : ("abcdefghijklmnopqrstuvwxyz" : Str).cps.toList = [97, 98, 99, 100, 101, 102, 103, 104, 105, 106, 107, 108, 109, 110, 111, 112, 113, 114, 115, 116, 117, 118, 119, 120, 121, 122] := by decide +kernel
  rw [e]
  simp only [List.mem_cons, List.not_mem_nil, or_false]
  omega
theorem ninD_sign (c : Nat) (z : Str) : ninD (.str ⟨#[c]⟩) (.str z) = some (.val (.bool (!decide (c ∈ z.cps.toList)))) := rfl
def notLow : D → Bool
  | .str y => !decide (y.cps.toList.headD 0 ∈ ("abcdefghijklmnopqrstuvwxyz" : Str).cps.toList)
  | _ => false
theorem signs_lay : ∀ l : List Nat, (∀ c ∈ l, c < 128) → PyData.canLayAll0 (l.map fun c => PyData.str ⟨#[c]⟩) = true ∧ PyData.depthAll (l.map fun c => PyData.str ⟨#[c]⟩) = 0
  | [], _ => ⟨rfl, rfl⟩
  | c :: l, h => by
    obtain ⟨h1, h2⟩ := signs_lay l fun x hx => h x (.tail _ hx)
    have hc := h c (.head _)
    refine ⟨?_, ?_⟩
    · rw [List.map_cons, PyData.canLayAll0, h1, Bool.and_true, PyData.canLay0, PyData.strOk]
      rw [← Array.all_toList]
      simp only [List.all_cons, List.all_nil, Bool.and_true, decide_eq_true_eq]; omega
    · rw [List.map_cons, PyData.depthAll, h2]; rfl
theorem lawname_ok {t : D} (h : isObj t = false) (hl : ∀ z, t = .str z → z.length ≤ 1000 ∧ ∀ c ∈ z.cps.toList, c < 128) {Q : Rv × EV → Prop} (q : Q (.val (.bool (nameB t)), [some (.val t)])) : W (m__law_is_name [some (.val t)]) Q := by
  unfold m__law_is_name b__law_is_name
  refine w_run rfl ?_
  dsimp only [List.replicate, List.append_nil, List.cons_append, List.nil_append, Nat.reduceSub]
  cases t with
  | str z =>
    have hz := (hl z rfl).1
    have hz2 := (hl z rfl).2
    have hs : z.length ≤ sizeLine := Nat.le_trans (Nat.le_trans hz (by decide)) size_big
    have e : lenD [.str z] = some (.val (.int z.length)) := by simp only [lenD, one, lenD1, if_pos hs]
    have q' : ∀ b, b = nameB (.str z) → Q (.val (.bool b), [some (.val (.str z))]) := fun b e => e ▸ q
    have emp : (z = "") ↔ z.length = 0 := ⟨fun h => by subst h; rfl, fun h => by
      obtain ⟨⟨l⟩⟩ := z
      cases l with
      | nil => rfl
      | cons _ _ => cases h⟩
    repeat' (first | ((first | (with_reducible refine w_varE ?_; refine ⟨_, rfl, ?_⟩) | (with_reducible refine w_varF ?_; refine ⟨⟨_, rfl⟩, ?_⟩) | (with_reducible refine w_seq ?_) | (with_reducible refine w_if ?_) | (with_reducible refine w_and ?_) | (with_reducible refine w_or ?_) | (with_reducible refine w_not ?_) | (with_reducible refine w_ite ?_) | (with_reducible refine w_expr ?_) | (with_reducible refine w_ret ?_) | (with_reducible refine w_setV ?_) | (with_reducible refine w_setO ?_) | (with_reducible refine w_m2 ?_) | (with_reducible refine w_m1 ?_) | (with_reducible refine w_mB ?_) | (with_reducible refine w_mCh ?_) | (with_reducible refine w_andV ?_) | (with_reducible refine w_orV ?_) | (with_reducible refine w_notV ?_) | (with_reducible refine w_c ?_) | (with_reducible refine w_acons ?_) | (with_reducible refine w_anil ?_) | (with_reducible refine w_n ?_) | (with_reducible refine w_lst ?_) | (with_reducible refine w_tup ?_) | (with_reducible refine w_next ?_) | (with_reducible refine w_brk ?_) | (with_reducible refine w_cont ?_) | (with_reducible refine w_iR1 ?_) | (with_reducible refine w_iR2 ?_) | (with_reducible refine w_iQ ?_) | (with_reducible refine w_par2 ?_) | (with_reducible refine w_fzF ?_) | (with_reducible refine w_fzT ?_) | (with_reducible refine w_sub ?_) | (with_reducible refine w_yes ?_) | (with_reducible refine w_m ?_) | (with_reducible refine w_isi ?_) | (with_reducible refine w_sl ?_) | (with_reducible refine w_pNo ?_) | (with_reducible refine w_pI ?_) | (with_reducible refine w_disp ?_) | (with_reducible refine w_dnil ?_) | (with_reducible refine w_dcons ?_) | (with_reducible refine w_sTup ?_) | (with_reducible refine w_subAdd ⟨_, rfl⟩ ?_) | ((fail_if_success (with_reducible refine W.idt ?_)); first | (refine ⟨_, _, _, rfl, rfl, (by first | exact eqD_int _ _ | exact neD_int _ _ | exact addD_int _ _ | exact subD_int _ _ | exact eqD_str _ _ | exact neD_str _ _ | (rw [ixD_list]; rfl) | (rw [ixD_tuple]; rfl) | exact powD_int _ _ (by decide) | exact modD_int _ _ (by omega) | exact mulA_int _ _ (cmul_small (by constructor <;> omega) (by constructor <;> omega)) | exact divD_int _ _ (cdiv_small (by constructor <;> omega)) | exact (rfl : ltD (.int _) (.int _) = _) | exact (rfl : leD (.int _) (.int _) = _) | exact (rfl : gtD (.int _) (.int _) = _) | exact (rfl : geD (.int _) (.int _) = _)), ?_⟩) | (refine ⟨_, _, _, rfl, rfl, rfl, ?_⟩) | (refine ⟨_, rfl, ⟨_, rfl⟩, ?_⟩) | (refine ⟨_, rfl, rfl, ?_⟩) | (refine ⟨_, rfl, (by assumption : Fr.isObj _ = false), ?_⟩) | (refine ⟨_, _, rfl, (by assumption : (_ : Option Sl) = some _), ?_⟩) | (refine ⟨_, _, _, rfl, rfl, (by assumption : (_ : Option Sl) = some _), ?_⟩) | (refine ⟨_, _, rfl, rfl, ?_⟩) | (refine ⟨_, rfl, Nat.le_of_ble_eq_true rfl, ?_⟩) | (refine ⟨_, rfl, (by omega), (by omega), ?_⟩) | (refine ⟨_, _, rfl, (by omega), ?_⟩) | (refine ⟨_, rfl, ?_⟩) | (refine .inl ⟨_, .inl rfl, ?_⟩) | (refine .inl ⟨_, .inr rfl, ?_⟩) | (refine .inr ⟨_, rfl, ?_⟩))); try dsimp only [List.set_cons_zero, List.set_cons_succ]) | (refine ⟨fun hc => ?_, fun hc => ?_⟩ <;> (first | (exact absurd hc Bool.false_ne_true) | (exact absurd hc.symm Bool.false_ne_true) | (simp only [Bool.not_eq_true', Bool.not_eq_false', decide_eq_true_eq, decide_eq_false_iff_not] at hc; try dsimp only) | skip)) | fail)
    · refine q' _ ?_
      show _ = (decide (1 ≤ z.length ∧ z.length ≤ 8) && z.cps.all fun c => decide (97 ≤ c ∧ c ≤ 122))
      rw [decide_eq_false (by have := emp.mp (by assumption); omega)]; rfl
    · refine q' _ ?_
      show _ = (decide (1 ≤ z.length ∧ z.length ≤ 8) && z.cps.all fun c => decide (97 ≤ c ∧ c ≤ 122))
      rw [decide_eq_false (by omega)]; rfl
    · rename_i hn
      have h1 : 1 ≤ z.length := by
        cases k : z.length with
        | zero => exact (hn (emp.mpr k)).elim
        | succ _ => omega
      refine w_lcP notLow id ?_
      repeat ((first | (with_reducible refine w_varE ?_; refine ⟨_, rfl, ?_⟩) | (with_reducible refine w_varF ?_; refine ⟨⟨_, rfl⟩, ?_⟩) | (with_reducible refine w_seq ?_) | (with_reducible refine w_if ?_) | (with_reducible refine w_and ?_) | (with_reducible refine w_or ?_) | (with_reducible refine w_not ?_) | (with_reducible refine w_ite ?_) | (with_reducible refine w_expr ?_) | (with_reducible refine w_ret ?_) | (with_reducible refine w_setV ?_) | (with_reducible refine w_setO ?_) | (with_reducible refine w_m2 ?_) | (with_reducible refine w_m1 ?_) | (with_reducible refine w_mB ?_) | (with_reducible refine w_mCh ?_) | (with_reducible refine w_andV ?_) | (with_reducible refine w_orV ?_) | (with_reducible refine w_notV ?_) | (with_reducible refine w_c ?_) | (with_reducible refine w_acons ?_) | (with_reducible refine w_anil ?_) | (with_reducible refine w_n ?_) | (with_reducible refine w_lst ?_) | (with_reducible refine w_tup ?_) | (with_reducible refine w_next ?_) | (with_reducible refine w_brk ?_) | (with_reducible refine w_cont ?_) | (with_reducible refine w_iR1 ?_) | (with_reducible refine w_iR2 ?_) | (with_reducible refine w_iQ ?_) | (with_reducible refine w_par2 ?_) | (with_reducible refine w_fzF ?_) | (with_reducible refine w_fzT ?_) | (with_reducible refine w_sub ?_) | (with_reducible refine w_yes ?_) | (with_reducible refine w_m ?_) | (with_reducible refine w_isi ?_) | (with_reducible refine w_sl ?_) | (with_reducible refine w_pNo ?_) | (with_reducible refine w_pI ?_) | (with_reducible refine w_disp ?_) | (with_reducible refine w_dnil ?_) | (with_reducible refine w_dcons ?_) | (with_reducible refine w_sTup ?_) | (with_reducible refine w_subAdd ⟨_, rfl⟩ ?_) | ((fail_if_success (with_reducible refine W.idt ?_)); first | (refine ⟨_, _, _, rfl, rfl, (by first | exact eqD_int _ _ | exact neD_int _ _ | exact addD_int _ _ | exact subD_int _ _ | exact eqD_str _ _ | exact neD_str _ _ | (rw [ixD_list]; rfl) | (rw [ixD_tuple]; rfl) | exact powD_int _ _ (by decide) | exact modD_int _ _ (by omega) | exact mulA_int _ _ (cmul_small (by constructor <;> omega) (by constructor <;> omega)) | exact divD_int _ _ (cdiv_small (by constructor <;> omega)) | exact (rfl : ltD (.int _) (.int _) = _) | exact (rfl : leD (.int _) (.int _) = _) | exact (rfl : gtD (.int _) (.int _) = _) | exact (rfl : geD (.int _) (.int _) = _)), ?_⟩) | (refine ⟨_, _, _, rfl, rfl, rfl, ?_⟩) | (refine ⟨_, rfl, ⟨_, rfl⟩, ?_⟩) | (refine ⟨_, rfl, rfl, ?_⟩) | (refine ⟨_, rfl, (by assumption : Fr.isObj _ = false), ?_⟩) | (refine ⟨_, _, rfl, (by assumption : (_ : Option Sl) = some _), ?_⟩) | (refine ⟨_, _, _, rfl, rfl, (by assumption : (_ : Option Sl) = some _), ?_⟩) | (refine ⟨_, _, rfl, rfl, ?_⟩) | (refine ⟨_, rfl, Nat.le_of_ble_eq_true rfl, ?_⟩) | (refine ⟨_, rfl, (by omega), (by omega), ?_⟩) | (refine ⟨_, _, rfl, (by omega), ?_⟩) | (refine ⟨_, rfl, ?_⟩) | (refine .inl ⟨_, .inl rfl, ?_⟩) | (refine .inl ⟨_, .inr rfl, ?_⟩) | (refine .inr ⟨_, rfl, ?_⟩))); try dsimp only [List.set_cons_zero, List.set_cons_succ])
      refine ⟨?_, fun d hd => ?_, ?_⟩
      · rw [List.length_map]; show z.length ≤ _; omega
      · obtain ⟨c, hc, rfl⟩ := List.mem_map.mp hd
        refine ⟨_, rfl, ?_⟩
        dsimp only [wipeE, List.set_cons_zero, List.set_cons_succ]
        repeat ((first | (with_reducible refine w_varE ?_; refine ⟨_, rfl, ?_⟩) | (with_reducible refine w_varF ?_; refine ⟨⟨_, rfl⟩, ?_⟩) | (with_reducible refine w_seq ?_) | (with_reducible refine w_if ?_) | (with_reducible refine w_and ?_) | (with_reducible refine w_or ?_) | (with_reducible refine w_not ?_) | (with_reducible refine w_ite ?_) | (with_reducible refine w_expr ?_) | (with_reducible refine w_ret ?_) | (with_reducible refine w_setV ?_) | (with_reducible refine w_setO ?_) | (with_reducible refine w_m2 ?_) | (with_reducible refine w_m1 ?_) | (with_reducible refine w_mB ?_) | (with_reducible refine w_mCh ?_) | (with_reducible refine w_andV ?_) | (with_reducible refine w_orV ?_) | (with_reducible refine w_notV ?_) | (with_reducible refine w_c ?_) | (with_reducible refine w_acons ?_) | (with_reducible refine w_anil ?_) | (with_reducible refine w_n ?_) | (with_reducible refine w_lst ?_) | (with_reducible refine w_tup ?_) | (with_reducible refine w_next ?_) | (with_reducible refine w_brk ?_) | (with_reducible refine w_cont ?_) | (with_reducible refine w_iR1 ?_) | (with_reducible refine w_iR2 ?_) | (with_reducible refine w_iQ ?_) | (with_reducible refine w_par2 ?_) | (with_reducible refine w_fzF ?_) | (with_reducible refine w_fzT ?_) | (with_reducible refine w_sub ?_) | (with_reducible refine w_yes ?_) | (with_reducible refine w_m ?_) | (with_reducible refine w_isi ?_) | (with_reducible refine w_sl ?_) | (with_reducible refine w_pNo ?_) | (with_reducible refine w_pI ?_) | (with_reducible refine w_disp ?_) | (with_reducible refine w_dnil ?_) | (with_reducible refine w_dcons ?_) | (with_reducible refine w_sTup ?_) | (with_reducible refine w_subAdd ⟨_, rfl⟩ ?_) | ((fail_if_success (with_reducible refine W.idt ?_)); first | (refine ⟨_, _, _, rfl, rfl, (by first | exact eqD_int _ _ | exact neD_int _ _ | exact addD_int _ _ | exact subD_int _ _ | exact eqD_str _ _ | exact neD_str _ _ | (rw [ixD_list]; rfl) | (rw [ixD_tuple]; rfl) | exact powD_int _ _ (by decide) | exact modD_int _ _ (by omega) | exact mulA_int _ _ (cmul_small (by constructor <;> omega) (by constructor <;> omega)) | exact divD_int _ _ (cdiv_small (by constructor <;> omega)) | exact (rfl : ltD (.int _) (.int _) = _) | exact (rfl : leD (.int _) (.int _) = _) | exact (rfl : gtD (.int _) (.int _) = _) | exact (rfl : geD (.int _) (.int _) = _)), ?_⟩) | (refine ⟨_, _, _, rfl, rfl, rfl, ?_⟩) | (refine ⟨_, rfl, ⟨_, rfl⟩, ?_⟩) | (refine ⟨_, rfl, rfl, ?_⟩) | (refine ⟨_, rfl, (by assumption : Fr.isObj _ = false), ?_⟩) | (refine ⟨_, _, rfl, (by assumption : (_ : Option Sl) = some _), ?_⟩) | (refine ⟨_, _, _, rfl, rfl, (by assumption : (_ : Option Sl) = some _), ?_⟩) | (refine ⟨_, _, rfl, rfl, ?_⟩) | (refine ⟨_, rfl, Nat.le_of_ble_eq_true rfl, ?_⟩) | (refine ⟨_, rfl, (by omega), (by omega), ?_⟩) | (refine ⟨_, _, rfl, (by omega), ?_⟩) | (refine ⟨_, rfl, ?_⟩) | (refine .inl ⟨_, .inl rfl, ?_⟩) | (refine .inl ⟨_, .inr rfl, ?_⟩) | (refine .inr ⟨_, rfl, ?_⟩))); try dsimp only [List.set_cons_zero, List.set_cons_succ])
        exact ⟨fun _ => w_var rfl ⟨rfl, rfl⟩, fun _ => rfl⟩
      · repeat ((first | (with_reducible refine w_varE ?_; refine ⟨_, rfl, ?_⟩) | (with_reducible refine w_varF ?_; refine ⟨⟨_, rfl⟩, ?_⟩) | (with_reducible refine w_seq ?_) | (with_reducible refine w_if ?_) | (with_reducible refine w_and ?_) | (with_reducible refine w_or ?_) | (with_reducible refine w_not ?_) | (with_reducible refine w_ite ?_) | (with_reducible refine w_expr ?_) | (with_reducible refine w_ret ?_) | (with_reducible refine w_setV ?_) | (with_reducible refine w_setO ?_) | (with_reducible refine w_m2 ?_) | (with_reducible refine w_m1 ?_) | (with_reducible refine w_mB ?_) | (with_reducible refine w_mCh ?_) | (with_reducible refine w_andV ?_) | (with_reducible refine w_orV ?_) | (with_reducible refine w_notV ?_) | (with_reducible refine w_c ?_) | (with_reducible refine w_acons ?_) | (with_reducible refine w_anil ?_) | (with_reducible refine w_n ?_) | (with_reducible refine w_lst ?_) | (with_reducible refine w_tup ?_) | (with_reducible refine w_next ?_) | (with_reducible refine w_brk ?_) | (with_reducible refine w_cont ?_) | (with_reducible refine w_iR1 ?_) | (with_reducible refine w_iR2 ?_) | (with_reducible refine w_iQ ?_) | (with_reducible refine w_par2 ?_) | (with_reducible refine w_fzF ?_) | (with_reducible refine w_fzT ?_) | (with_reducible refine w_sub ?_) | (with_reducible refine w_yes ?_) | (with_reducible refine w_m ?_) | (with_reducible refine w_isi ?_) | (with_reducible refine w_sl ?_) | (with_reducible refine w_pNo ?_) | (with_reducible refine w_pI ?_) | (with_reducible refine w_disp ?_) | (with_reducible refine w_dnil ?_) | (with_reducible refine w_dcons ?_) | (with_reducible refine w_sTup ?_) | (with_reducible refine w_subAdd ⟨_, rfl⟩ ?_) | ((fail_if_success (with_reducible refine W.idt ?_)); first | (refine ⟨_, _, _, rfl, rfl, (by first | exact eqD_int _ _ | exact neD_int _ _ | exact addD_int _ _ | exact subD_int _ _ | exact eqD_str _ _ | exact neD_str _ _ | (rw [ixD_list]; rfl) | (rw [ixD_tuple]; rfl) | exact powD_int _ _ (by decide) | exact modD_int _ _ (by omega) | exact mulA_int _ _ (cmul_small (by constructor <;> omega) (by constructor <;> omega)) | exact divD_int _ _ (cdiv_small (by constructor <;> omega)) | exact (rfl : ltD (.int _) (.int _) = _) | exact (rfl : leD (.int _) (.int _) = _) | exact (rfl : gtD (.int _) (.int _) = _) | exact (rfl : geD (.int _) (.int _) = _)), ?_⟩) | (refine ⟨_, _, _, rfl, rfl, rfl, ?_⟩) | (refine ⟨_, rfl, ⟨_, rfl⟩, ?_⟩) | (refine ⟨_, rfl, rfl, ?_⟩) | (refine ⟨_, rfl, (by assumption : Fr.isObj _ = false), ?_⟩) | (refine ⟨_, _, rfl, (by assumption : (_ : Option Sl) = some _), ?_⟩) | (refine ⟨_, _, _, rfl, rfl, (by assumption : (_ : Option Sl) = some _), ?_⟩) | (refine ⟨_, _, rfl, rfl, ?_⟩) | (refine ⟨_, rfl, Nat.le_of_ble_eq_true rfl, ?_⟩) | (refine ⟨_, rfl, (by omega), (by omega), ?_⟩) | (refine ⟨_, _, rfl, (by omega), ?_⟩) | (refine ⟨_, rfl, ?_⟩) | (refine .inl ⟨_, .inl rfl, ?_⟩) | (refine .inl ⟨_, .inr rfl, ?_⟩) | (refine .inr ⟨_, rfl, ?_⟩))); try dsimp only [List.set_cons_zero, List.set_cons_succ])
        rw [List.map_id, List.filter_map]
        have ly := signs_lay (List.filter (notLow ∘ fun c => PyData.str { cps := #[c] }) z.cps.toList) fun c hc => hz2 c (List.mem_filter.mp hc).1
        refine ⟨_, _, _, rfl, rfl, eqD_nil _ ly.1 (by rw [ly.2]; decide), q' _ ?_⟩
        show _ = (decide (1 ≤ z.length ∧ z.length ≤ 8) && z.cps.all fun c => decide (97 ≤ c ∧ c ≤ 122))
        rw [decide_eq_true (by omega), Bool.true_and, ← Array.all_toList, Bool.eq_iff_iff, List.isEmpty_iff, List.map_eq_nil_iff, List.filter_eq_nil_iff, List.all_eq_true]
        refine forall_congr' fun c => forall_congr' fun _ => ?_
        show ¬ (!decide (c ∈ ("abcdefghijklmnopqrstuvwxyz" : Str).cps.toList)) = true ↔ _
        rw [Bool.not_eq_true', decide_eq_false_iff_not, Decidable.not_not, letters, decide_eq_true_eq]
  | _ =>
    repeat' (first | ((first | (with_reducible refine w_varE ?_; refine ⟨_, rfl, ?_⟩) | (with_reducible refine w_varF ?_; refine ⟨⟨_, rfl⟩, ?_⟩) | (with_reducible refine w_seq ?_) | (with_reducible refine w_if ?_) | (with_reducible refine w_and ?_) | (with_reducible refine w_or ?_) | (with_reducible refine w_not ?_) | (with_reducible refine w_ite ?_) | (with_reducible refine w_expr ?_) | (with_reducible refine w_ret ?_) | (with_reducible refine w_setV ?_) | (with_reducible refine w_setO ?_) | (with_reducible refine w_m2 ?_) | (with_reducible refine w_m1 ?_) | (with_reducible refine w_mB ?_) | (with_reducible refine w_mCh ?_) | (with_reducible refine w_andV ?_) | (with_reducible refine w_orV ?_) | (with_reducible refine w_notV ?_) | (with_reducible refine w_c ?_) | (with_reducible refine w_acons ?_) | (with_reducible refine w_anil ?_) | (with_reducible refine w_n ?_) | (with_reducible refine w_lst ?_) | (with_reducible refine w_tup ?_) | (with_reducible refine w_next ?_) | (with_reducible refine w_brk ?_) | (with_reducible refine w_cont ?_) | (with_reducible refine w_iR1 ?_) | (with_reducible refine w_iR2 ?_) | (with_reducible refine w_iQ ?_) | (with_reducible refine w_par2 ?_) | (with_reducible refine w_fzF ?_) | (with_reducible refine w_fzT ?_) | (with_reducible refine w_sub ?_) | (with_reducible refine w_yes ?_) | (with_reducible refine w_m ?_) | (with_reducible refine w_isi ?_) | (with_reducible refine w_sl ?_) | (with_reducible refine w_pNo ?_) | (with_reducible refine w_pI ?_) | (with_reducible refine w_disp ?_) | (with_reducible refine w_dnil ?_) | (with_reducible refine w_dcons ?_) | (with_reducible refine w_sTup ?_) | (with_reducible refine w_subAdd ⟨_, rfl⟩ ?_) | ((fail_if_success (with_reducible refine W.idt ?_)); first | (refine ⟨_, _, _, rfl, rfl, (by first | exact eqD_int _ _ | exact neD_int _ _ | exact addD_int _ _ | exact subD_int _ _ | exact eqD_str _ _ | exact neD_str _ _ | (rw [ixD_list]; rfl) | (rw [ixD_tuple]; rfl) | exact powD_int _ _ (by decide) | exact modD_int _ _ (by omega) | exact mulA_int _ _ (cmul_small (by constructor <;> omega) (by constructor <;> omega)) | exact divD_int _ _ (cdiv_small (by constructor <;> omega)) | exact (rfl : ltD (.int _) (.int _) = _) | exact (rfl : leD (.int _) (.int _) = _) | exact (rfl : gtD (.int _) (.int _) = _) | exact (rfl : geD (.int _) (.int _) = _)), ?_⟩) | (refine ⟨_, _, _, rfl, rfl, rfl, ?_⟩) | (refine ⟨_, rfl, ⟨_, rfl⟩, ?_⟩) | (refine ⟨_, rfl, rfl, ?_⟩) | (refine ⟨_, rfl, (by assumption : Fr.isObj _ = false), ?_⟩) | (refine ⟨_, _, rfl, (by assumption : (_ : Option Sl) = some _), ?_⟩) | (refine ⟨_, _, _, rfl, rfl, (by assumption : (_ : Option Sl) = some _), ?_⟩) | (refine ⟨_, _, rfl, rfl, ?_⟩) | (refine ⟨_, rfl, Nat.le_of_ble_eq_true rfl, ?_⟩) | (refine ⟨_, rfl, (by omega), (by omega), ?_⟩) | (refine ⟨_, _, rfl, (by omega), ?_⟩) | (refine ⟨_, rfl, ?_⟩) | (refine .inl ⟨_, .inl rfl, ?_⟩) | (refine .inl ⟨_, .inr rfl, ?_⟩) | (refine .inr ⟨_, rfl, ?_⟩))); try dsimp only [List.set_cons_zero, List.set_cons_succ]) | (refine ⟨fun hc => ?_, fun hc => ?_⟩ <;> (first | (exact absurd hc Bool.false_ne_true) | (exact absurd hc.symm Bool.false_ne_true) | (simp only [Bool.not_eq_true', Bool.not_eq_false', decide_eq_true_eq, decide_eq_false_iff_not] at hc; try dsimp only) | skip)) | fail)
    all_goals exact q
/-- a short plain text -/
def Tx (z : Str) : Prop := z.length ≤ 12 ∧ ∀ c ∈ z.cps.toList, c < 128
theorem strsD_map : ∀ ys : List Str, strsD (ys.map PyData.str) = some ys
  | [] => rfl
  | y :: ys => by rw [List.map_cons, strsD, strsD_map ys]; rfl
theorem abc_at {v : Int} (h0 : 0 ≤ v) (h1 : v < 26) : ∃ c, c < 128 ∧ ixD (.str "abcdefghijklmnopqrstuvwxyz") (.int v) = some (.val (.str ⟨#[c]⟩)) := by
  have hl : ("abcdefghijklmnopqrstuvwxyz" : Str).length = 26 := by decide +kernel
  have hl2 : ("abcdefghijklmnopqrstuvwxyz" : Str).cps.toList.length = 26 := by decide +kernel
  obtain ⟨c, e, hm⟩ := atI_nat (xs := ("abcdefghijklmnopqrstuvwxyz" : Str).cps.toList) h0 (by rw [hl2]; exact h1)
  refine ⟨c, ?_, ?_⟩
  · have := (letters c).mp hm; omega
  · rw [ixD_str _ _ (by rw [hl]; have := size_big; omega), e]; rfl
theorem cut_tx {z : Str} {lo hi : Option Int} (h : ∀ c ∈ z.cps.toList, c < 128) : ∀ c ∈ (cutS z lo hi).cps.toList, c < 128 := fun c hc => h c (by
  unfold cutS at hc
  exact List.mem_of_mem_drop (List.mem_of_mem_take (by simpa using hc)))
theorem cut_two {z : Str} {u : Int} (h : 0 ≤ u) : (cutS z none (some u)).length + (cutS z (some u) none).length ≤ z.length := by
  have l : z.cps.toList.length = z.length := rfl
  obtain ⟨k, rfl⟩ := Int.eq_ofNat_of_zero_le h
  show (List.toArray _).size + (List.toArray _).size ≤ _
  rw [List.size_toArray, List.size_toArray, List.length_take, List.length_take, List.length_drop, List.length_drop, l, HT.sIx_nat, HT.sIx_nat, HT.sIx_none, HT.sIx_none]
  omega
theorem text_ok {n : Nat} {d : D} (h : Bg n d) (hn : n ≤ 900000) {Q : Rv × EV → Prop} (q : ∀ z d', Tx z → Bg (n + 14) d' → Q (.val (.str z), [some (.own d')])) : W (m__law_text [some (.own d)]) Q := by
  unfold m__law_text b__law_text
  rw [show m__law_take = m_take from rfl]
  refine w_run rfl ?_
  dsimp only [List.replicate, List.append_nil, List.cons_append, List.nil_append, Nat.reduceSub]
  repeat ((first | (with_reducible refine w_varE ?_; refine ⟨_, rfl, ?_⟩) | (with_reducible refine w_varF ?_; refine ⟨⟨_, rfl⟩, ?_⟩) | (with_reducible refine w_seq ?_) | (with_reducible refine w_if ?_) | (with_reducible refine w_and ?_) | (with_reducible refine w_or ?_) | (with_reducible refine w_not ?_) | (with_reducible refine w_ite ?_) | (with_reducible refine w_expr ?_) | (with_reducible refine w_ret ?_) | (with_reducible refine w_setV ?_) | (with_reducible refine w_setO ?_) | (with_reducible refine w_m2 ?_) | (with_reducible refine w_m1 ?_) | (with_reducible refine w_mB ?_) | (with_reducible refine w_mCh ?_) | (with_reducible refine w_andV ?_) | (with_reducible refine w_orV ?_) | (with_reducible refine w_notV ?_) | (with_reducible refine w_c ?_) | (with_reducible refine w_acons ?_) | (with_reducible refine w_anil ?_) | (with_reducible refine w_n ?_) | (with_reducible refine w_lst ?_) | (with_reducible refine w_tup ?_) | (with_reducible refine w_next ?_) | (with_reducible refine w_brk ?_) | (with_reducible refine w_cont ?_) | (with_reducible refine w_iR1 ?_) | (with_reducible refine w_iR2 ?_) | (with_reducible refine w_iQ ?_) | (with_reducible refine w_par2 ?_) | (with_reducible refine w_fzF ?_) | (with_reducible refine w_fzT ?_) | (with_reducible refine w_sub ?_) | (with_reducible refine w_yes ?_) | (with_reducible refine w_m ?_) | (with_reducible refine w_isi ?_) | (with_reducible refine w_sl ?_) | (with_reducible refine w_pNo ?_) | (with_reducible refine w_pI ?_) | (with_reducible refine w_disp ?_) | (with_reducible refine w_dnil ?_) | (with_reducible refine w_dcons ?_) | (with_reducible refine w_sTup ?_) | (with_reducible refine w_subAdd ⟨_, rfl⟩ ?_) | ((fail_if_success (with_reducible refine W.idt ?_)); first | (refine ⟨_, _, _, rfl, rfl, (by first | exact eqD_int _ _ | exact neD_int _ _ | exact addD_int _ _ | exact subD_int _ _ | exact eqD_str _ _ | exact neD_str _ _ | (rw [ixD_list]; rfl) | (rw [ixD_tuple]; rfl) | exact powD_int _ _ (by decide) | exact modD_int _ _ (by omega) | exact mulA_int _ _ (cmul_small (by constructor <;> omega) (by constructor <;> omega)) | exact divD_int _ _ (cdiv_small (by constructor <;> omega)) | exact (rfl : ltD (.int _) (.int _) = _) | exact (rfl : leD (.int _) (.int _) = _) | exact (rfl : gtD (.int _) (.int _) = _) | exact (rfl : geD (.int _) (.int _) = _)), ?_⟩) | (refine ⟨_, _, _, rfl, rfl, rfl, ?_⟩) | (refine ⟨_, rfl, ⟨_, rfl⟩, ?_⟩) | (refine ⟨_, rfl, rfl, ?_⟩) | (refine ⟨_, rfl, (by assumption : Fr.isObj _ = false), ?_⟩) | (refine ⟨_, _, rfl, (by assumption : (_ : Option Sl) = some _), ?_⟩) | (refine ⟨_, _, _, rfl, rfl, (by assumption : (_ : Option Sl) = some _), ?_⟩) | (refine ⟨_, _, rfl, rfl, ?_⟩) | (refine ⟨_, rfl, Nat.le_of_ble_eq_true rfl, ?_⟩) | (refine ⟨_, rfl, (by omega), (by omega), ?_⟩) | (refine ⟨_, _, rfl, (by omega), ?_⟩) | (refine ⟨_, rfl, ?_⟩) | (refine .inl ⟨_, .inl rfl, ?_⟩) | (refine .inl ⟨_, .inr rfl, ?_⟩) | (refine .inr ⟨_, rfl, ?_⟩))); try dsimp only [List.set_cons_zero, List.set_cons_succ])
  refine W.mono (Q := fun x => ∃ (ys : List Str) (d' : D), x = (.own (.list (ys.map PyData.str)), [some (.own d'), none, none, none]) ∧ Bg (n + 11) d' ∧ ys.length ≤ 10 ∧ ∀ y ∈ ys, ∃ c, c < 128 ∧ y = ⟨#[c]⟩) ?_ ?_
  · refine w_lc (fun ds j acc ρ => ∃ (ys : List Str) (d' : D), acc = ys.map PyData.str ∧ ρ = [some (.own d'), none, none, none] ∧ Bg (n + 1 + j) d' ∧ ys.length = j ∧ ∀ y ∈ ys, ∃ c, c < 128 ∧ y = ⟨#[c]⟩) ?_
    refine w_iR1 (w_acons (w_take rfl (w_c ⟨rfl, rfl⟩) h (by omega) (by omega) (by omega) fun v d1 h1 h2 b1 => ?_))
    refine w_anil ⟨v, rfl, by omega, by omega, ⟨[], d1, rfl, rfl, b1, rfl, fun _ z => nomatch z⟩, ?_, fun j e acc ρ hj hi => ?_, fun acc ρ hi => ?_⟩
    · dsimp only [rngD]; rw [List.length_map, List.length_range]; omega
    · obtain ⟨ys, d2, rfl, rfl, b2, hl, hy⟩ := hi
      have hj2 : j < v.toNat := by have := (List.getElem?_eq_some_iff.mp hj).1; dsimp only [rngD] at this; rw [List.length_map, List.length_range] at this; exact this
      refine ⟨_, rfl, ?_⟩
      dsimp only [wipeE, List.set_cons_zero, List.set_cons_succ]
      refine w_yes ⟨fun _ => ?_, fun z => (by cases z)⟩
      refine w_m2 (w_c (w_take rfl (w_c ⟨rfl, rfl⟩) b2 (by omega) (by omega) (by omega) fun u d3 h3 h4 b3 => ?_))
      obtain ⟨c, hc, ec⟩ := abc_at h3 h4
      refine ⟨_, _, _, rfl, rfl, ec, _, rfl, ys ++ [⟨#[c]⟩], d3, by simp, rfl, b3, by simp [hl], fun y hm => ?_⟩
      rcases List.mem_append.mp hm with hm | hm
      · exact hy y hm
      · exact ⟨c, hc, by simpa using hm⟩
    · obtain ⟨ys, d2, rfl, rfl, b2, hl, hy⟩ := hi
      have hl2 : (rngD 0 v.toNat).length = v.toNat := by dsimp only [rngD]; rw [List.length_map, List.length_range]
      rw [hl2] at b2 hl
      exact ⟨ys, d2, rfl, b2.mono (by omega), by omega, hy⟩
  · rintro x ⟨ys, d1, rfl, b1, hl, hy⟩
    have j1 : ((ys.map (·.length)).sum + ys.length * ("" : Str).length) ≤ 10 ∧ (ys.map (·.length)).sum ≤ 10 := by
      have : ∀ ys : List Str, (∀ y ∈ ys, ∃ c, c < 128 ∧ y = ⟨#[c]⟩) → (ys.map (·.length)).sum = ys.length := by
        intro ys
        induction ys with
        | nil => exact fun _ => rfl
        | cons y ys ih =>
          intro h
          obtain ⟨c, _, rfl⟩ := h y (.head _)
          rw [List.map_cons, List.sum_cons, ih fun z hz => h z (.tail _ hz), List.length_cons]
          show 1 + _ = _; omega
      rw [this ys hy]
      refine ⟨?_, hl⟩
      show _ + _ * 0 ≤ _; omega
    have tx : (Txt.join "" ys).length ≤ 10 ∧ ∀ c ∈ (Txt.join "" ys).cps.toList, c < 128 := by
      rw [show Txt.join "" ys = Str.join "" ys from PySem.StrLaws.glued_eq_join "" ys]
      refine ⟨?_, fun c hc => ?_⟩
      · have := PySem.StrLaws.join_length_le "" ys
        exact Nat.le_trans this j1.1
      · rcases (PyProof.Rows.mem_join "" c ys).mp hc with ⟨t, ht, hc⟩ | ⟨_, hc⟩
        · obtain ⟨e, he, rfl⟩ := hy t ht
          simp at hc; omega
        · cases hc
    generalize hz : Txt.join "" ys = z at tx
    have ej : joinD (.str "") [.list (ys.map PyData.str)] = some (.val (.str z)) := by
      simp only [joinD, strsD_map]
      rw [if_pos (by omega), hz]
    refine w_anil ⟨_, _, _, rfl, rfl, ej, _, rfl, rfl, ?_⟩
    dsimp only [List.set_cons_zero, List.set_cons_succ]
    refine w_seq (w_if (w_mB (w_m2 (w_take rfl (w_c ⟨rfl, rfl⟩) b1 (by omega) (by omega) (by omega) fun v d2 h1 h2 b2 => w_c ?_))))
    refine ⟨_, _, _, rfl, rfl, rfl, _, rfl, fun hc => ?_, fun hc => ?_⟩
    · repeat ((first | (with_reducible refine w_varE ?_; refine ⟨_, rfl, ?_⟩) | (with_reducible refine w_varF ?_; refine ⟨⟨_, rfl⟩, ?_⟩) | (with_reducible refine w_seq ?_) | (with_reducible refine w_if ?_) | (with_reducible refine w_and ?_) | (with_reducible refine w_or ?_) | (with_reducible refine w_not ?_) | (with_reducible refine w_ite ?_) | (with_reducible refine w_expr ?_) | (with_reducible refine w_ret ?_) | (with_reducible refine w_setV ?_) | (with_reducible refine w_setO ?_) | (with_reducible refine w_m2 ?_) | (with_reducible refine w_m1 ?_) | (with_reducible refine w_mB ?_) | (with_reducible refine w_mCh ?_) | (with_reducible refine w_andV ?_) | (with_reducible refine w_orV ?_) | (with_reducible refine w_notV ?_) | (with_reducible refine w_c ?_) | (with_reducible refine w_acons ?_) | (with_reducible refine w_anil ?_) | (with_reducible refine w_n ?_) | (with_reducible refine w_lst ?_) | (with_reducible refine w_tup ?_) | (with_reducible refine w_next ?_) | (with_reducible refine w_brk ?_) | (with_reducible refine w_cont ?_) | (with_reducible refine w_iR1 ?_) | (with_reducible refine w_iR2 ?_) | (with_reducible refine w_iQ ?_) | (with_reducible refine w_par2 ?_) | (with_reducible refine w_fzF ?_) | (with_reducible refine w_fzT ?_) | (with_reducible refine w_sub ?_) | (with_reducible refine w_yes ?_) | (with_reducible refine w_m ?_) | (with_reducible refine w_isi ?_) | (with_reducible refine w_sl ?_) | (with_reducible refine w_pNo ?_) | (with_reducible refine w_pI ?_) | (with_reducible refine w_disp ?_) | (with_reducible refine w_dnil ?_) | (with_reducible refine w_dcons ?_) | (with_reducible refine w_sTup ?_) | (with_reducible refine w_subAdd ⟨_, rfl⟩ ?_) | ((fail_if_success (with_reducible refine W.idt ?_)); first | (refine ⟨_, _, _, rfl, rfl, (by first | exact eqD_int _ _ | exact neD_int _ _ | exact addD_int _ _ | exact subD_int _ _ | exact eqD_str _ _ | exact neD_str _ _ | (rw [ixD_list]; rfl) | (rw [ixD_tuple]; rfl) | exact powD_int _ _ (by decide) | exact modD_int _ _ (by omega) | exact mulA_int _ _ (cmul_small (by constructor <;> omega) (by constructor <;> omega)) | exact divD_int _ _ (cdiv_small (by constructor <;> omega)) | exact (rfl : ltD (.int _) (.int _) = _) | exact (rfl : leD (.int _) (.int _) = _) | exact (rfl : gtD (.int _) (.int _) = _) | exact (rfl : geD (.int _) (.int _) = _)), ?_⟩) | (refine ⟨_, _, _, rfl, rfl, rfl, ?_⟩) | (refine ⟨_, rfl, ⟨_, rfl⟩, ?_⟩) | (refine ⟨_, rfl, rfl, ?_⟩) | (refine ⟨_, rfl, (by assumption : Fr.isObj _ = false), ?_⟩) | (refine ⟨_, _, rfl, (by assumption : (_ : Option Sl) = some _), ?_⟩) | (refine ⟨_, _, _, rfl, rfl, (by assumption : (_ : Option Sl) = some _), ?_⟩) | (refine ⟨_, _, rfl, rfl, ?_⟩) | (refine ⟨_, rfl, Nat.le_of_ble_eq_true rfl, ?_⟩) | (refine ⟨_, rfl, (by omega), (by omega), ?_⟩) | (refine ⟨_, _, rfl, (by omega), ?_⟩) | (refine ⟨_, rfl, ?_⟩) | (refine .inl ⟨_, .inl rfl, ?_⟩) | (refine .inl ⟨_, .inr rfl, ?_⟩) | (refine .inr ⟨_, rfl, ?_⟩))); try dsimp only [List.set_cons_zero, List.set_cons_succ])
      exact q z d2 ⟨by omega, tx.2⟩ (b2.mono (by omega))
    · repeat ((first | (with_reducible refine w_varE ?_; refine ⟨_, rfl, ?_⟩) | (with_reducible refine w_varF ?_; refine ⟨⟨_, rfl⟩, ?_⟩) | (with_reducible refine w_seq ?_) | (with_reducible refine w_if ?_) | (with_reducible refine w_and ?_) | (with_reducible refine w_or ?_) | (with_reducible refine w_not ?_) | (with_reducible refine w_ite ?_) | (with_reducible refine w_expr ?_) | (with_reducible refine w_ret ?_) | (with_reducible refine w_setV ?_) | (with_reducible refine w_setO ?_) | (with_reducible refine w_m2 ?_) | (with_reducible refine w_m1 ?_) | (with_reducible refine w_mB ?_) | (with_reducible refine w_mCh ?_) | (with_reducible refine w_andV ?_) | (with_reducible refine w_orV ?_) | (with_reducible refine w_notV ?_) | (with_reducible refine w_c ?_) | (with_reducible refine w_acons ?_) | (with_reducible refine w_anil ?_) | (with_reducible refine w_n ?_) | (with_reducible refine w_lst ?_) | (with_reducible refine w_tup ?_) | (with_reducible refine w_next ?_) | (with_reducible refine w_brk ?_) | (with_reducible refine w_cont ?_) | (with_reducible refine w_iR1 ?_) | (with_reducible refine w_iR2 ?_) | (with_reducible refine w_iQ ?_) | (with_reducible refine w_par2 ?_) | (with_reducible refine w_fzF ?_) | (with_reducible refine w_fzT ?_) | (with_reducible refine w_sub ?_) | (with_reducible refine w_yes ?_) | (with_reducible refine w_m ?_) | (with_reducible refine w_isi ?_) | (with_reducible refine w_sl ?_) | (with_reducible refine w_pNo ?_) | (with_reducible refine w_pI ?_) | (with_reducible refine w_disp ?_) | (with_reducible refine w_dnil ?_) | (with_reducible refine w_dcons ?_) | (with_reducible refine w_sTup ?_) | (with_reducible refine w_subAdd ⟨_, rfl⟩ ?_) | ((fail_if_success (with_reducible refine W.idt ?_)); first | (refine ⟨_, _, _, rfl, rfl, (by first | exact eqD_int _ _ | exact neD_int _ _ | exact addD_int _ _ | exact subD_int _ _ | exact eqD_str _ _ | exact neD_str _ _ | (rw [ixD_list]; rfl) | (rw [ixD_tuple]; rfl) | exact powD_int _ _ (by decide) | exact modD_int _ _ (by omega) | exact mulA_int _ _ (cmul_small (by constructor <;> omega) (by constructor <;> omega)) | exact divD_int _ _ (cdiv_small (by constructor <;> omega)) | exact (rfl : ltD (.int _) (.int _) = _) | exact (rfl : leD (.int _) (.int _) = _) | exact (rfl : gtD (.int _) (.int _) = _) | exact (rfl : geD (.int _) (.int _) = _)), ?_⟩) | (refine ⟨_, _, _, rfl, rfl, rfl, ?_⟩) | (refine ⟨_, rfl, ⟨_, rfl⟩, ?_⟩) | (refine ⟨_, rfl, rfl, ?_⟩) | (refine ⟨_, rfl, (by assumption : Fr.isObj _ = false), ?_⟩) | (refine ⟨_, _, rfl, (by assumption : (_ : Option Sl) = some _), ?_⟩) | (refine ⟨_, _, _, rfl, rfl, (by assumption : (_ : Option Sl) = some _), ?_⟩) | (refine ⟨_, _, rfl, rfl, ?_⟩) | (refine ⟨_, rfl, Nat.le_of_ble_eq_true rfl, ?_⟩) | (refine ⟨_, rfl, (by omega), (by omega), ?_⟩) | (refine ⟨_, _, rfl, (by omega), ?_⟩) | (refine ⟨_, rfl, ?_⟩) | (refine .inl ⟨_, .inl rfl, ?_⟩) | (refine .inl ⟨_, .inr rfl, ?_⟩) | (refine .inr ⟨_, rfl, ?_⟩))); try dsimp only [List.set_cons_zero, List.set_cons_succ])
      have hs : z.length ≤ sizeLine := by have := size_big; omega
      have el : lenD [.str z] = some (.val (.int z.length)) := by simp only [lenD, one, lenD1, if_pos hs]
      refine w_take (many := z.length + 1) rfl ?_ b2 (by omega) (by omega) (by omega) fun u d3 h3 h4 b3 => ?_
      · repeat ((first | (with_reducible refine w_varE ?_; refine ⟨_, rfl, ?_⟩) | (with_reducible refine w_varF ?_; refine ⟨⟨_, rfl⟩, ?_⟩) | (with_reducible refine w_seq ?_) | (with_reducible refine w_if ?_) | (with_reducible refine w_and ?_) | (with_reducible refine w_or ?_) | (with_reducible refine w_not ?_) | (with_reducible refine w_ite ?_) | (with_reducible refine w_expr ?_) | (with_reducible refine w_ret ?_) | (with_reducible refine w_setV ?_) | (with_reducible refine w_setO ?_) | (with_reducible refine w_m2 ?_) | (with_reducible refine w_m1 ?_) | (with_reducible refine w_mB ?_) | (with_reducible refine w_mCh ?_) | (with_reducible refine w_andV ?_) | (with_reducible refine w_orV ?_) | (with_reducible refine w_notV ?_) | (with_reducible refine w_c ?_) | (with_reducible refine w_acons ?_) | (with_reducible refine w_anil ?_) | (with_reducible refine w_n ?_) | (with_reducible refine w_lst ?_) | (with_reducible refine w_tup ?_) | (with_reducible refine w_next ?_) | (with_reducible refine w_brk ?_) | (with_reducible refine w_cont ?_) | (with_reducible refine w_iR1 ?_) | (with_reducible refine w_iR2 ?_) | (with_reducible refine w_iQ ?_) | (with_reducible refine w_par2 ?_) | (with_reducible refine w_fzF ?_) | (with_reducible refine w_fzT ?_) | (with_reducible refine w_sub ?_) | (with_reducible refine w_yes ?_) | (with_reducible refine w_m ?_) | (with_reducible refine w_isi ?_) | (with_reducible refine w_sl ?_) | (with_reducible refine w_pNo ?_) | (with_reducible refine w_pI ?_) | (with_reducible refine w_disp ?_) | (with_reducible refine w_dnil ?_) | (with_reducible refine w_dcons ?_) | (with_reducible refine w_sTup ?_) | (with_reducible refine w_subAdd ⟨_, rfl⟩ ?_) | ((fail_if_success (with_reducible refine W.idt ?_)); first | (refine ⟨_, _, _, rfl, rfl, (by first | exact eqD_int _ _ | exact neD_int _ _ | exact addD_int _ _ | exact subD_int _ _ | exact eqD_str _ _ | exact neD_str _ _ | (rw [ixD_list]; rfl) | (rw [ixD_tuple]; rfl) | exact powD_int _ _ (by decide) | exact modD_int _ _ (by omega) | exact mulA_int _ _ (cmul_small (by constructor <;> omega) (by constructor <;> omega)) | exact divD_int _ _ (cdiv_small (by constructor <;> omega)) | exact (rfl : ltD (.int _) (.int _) = _) | exact (rfl : leD (.int _) (.int _) = _) | exact (rfl : gtD (.int _) (.int _) = _) | exact (rfl : geD (.int _) (.int _) = _)), ?_⟩) | (refine ⟨_, _, _, rfl, rfl, rfl, ?_⟩) | (refine ⟨_, rfl, ⟨_, rfl⟩, ?_⟩) | (refine ⟨_, rfl, rfl, ?_⟩) | (refine ⟨_, rfl, (by assumption : Fr.isObj _ = false), ?_⟩) | (refine ⟨_, _, rfl, (by assumption : (_ : Option Sl) = some _), ?_⟩) | (refine ⟨_, _, _, rfl, rfl, (by assumption : (_ : Option Sl) = some _), ?_⟩) | (refine ⟨_, _, rfl, rfl, ?_⟩) | (refine ⟨_, rfl, Nat.le_of_ble_eq_true rfl, ?_⟩) | (refine ⟨_, rfl, (by omega), (by omega), ?_⟩) | (refine ⟨_, _, rfl, (by omega), ?_⟩) | (refine ⟨_, rfl, ?_⟩) | (refine .inl ⟨_, .inl rfl, ?_⟩) | (refine .inl ⟨_, .inr rfl, ?_⟩) | (refine .inr ⟨_, rfl, ?_⟩))); try dsimp only [List.set_cons_zero, List.set_cons_succ])
        exact ⟨rfl, rfl⟩
      have e1 : slD (.str z) none (some u) = some (.val (.str (cutS z none (some u)))) := by simp only [slD, if_pos hs]
      have e2 : slD (.str z) (some u) none = some (.val (.str (cutS z (some u) none))) := by simp only [slD, if_pos hs]
      have k1 := cut_tx (lo := none) (hi := some u) tx.2
      have k2 := cut_tx (lo := some u) (hi := none) tx.2
      have kk : (cutS z none (some u)).length + (cutS z (some u) none).length ≤ z.length := cut_two h3
      repeat ((first | (with_reducible refine w_varE ?_; refine ⟨_, rfl, ?_⟩) | (with_reducible refine w_varF ?_; refine ⟨⟨_, rfl⟩, ?_⟩) | (with_reducible refine w_seq ?_) | (with_reducible refine w_if ?_) | (with_reducible refine w_and ?_) | (with_reducible refine w_or ?_) | (with_reducible refine w_not ?_) | (with_reducible refine w_ite ?_) | (with_reducible refine w_expr ?_) | (with_reducible refine w_ret ?_) | (with_reducible refine w_setV ?_) | (with_reducible refine w_setO ?_) | (with_reducible refine w_m2 ?_) | (with_reducible refine w_m1 ?_) | (with_reducible refine w_mB ?_) | (with_reducible refine w_mCh ?_) | (with_reducible refine w_andV ?_) | (with_reducible refine w_orV ?_) | (with_reducible refine w_notV ?_) | (with_reducible refine w_c ?_) | (with_reducible refine w_acons ?_) | (with_reducible refine w_anil ?_) | (with_reducible refine w_n ?_) | (with_reducible refine w_lst ?_) | (with_reducible refine w_tup ?_) | (with_reducible refine w_next ?_) | (with_reducible refine w_brk ?_) | (with_reducible refine w_cont ?_) | (with_reducible refine w_iR1 ?_) | (with_reducible refine w_iR2 ?_) | (with_reducible refine w_iQ ?_) | (with_reducible refine w_par2 ?_) | (with_reducible refine w_fzF ?_) | (with_reducible refine w_fzT ?_) | (with_reducible refine w_sub ?_) | (with_reducible refine w_yes ?_) | (with_reducible refine w_m ?_) | (with_reducible refine w_isi ?_) | (with_reducible refine w_sl ?_) | (with_reducible refine w_pNo ?_) | (with_reducible refine w_pI ?_) | (with_reducible refine w_disp ?_) | (with_reducible refine w_dnil ?_) | (with_reducible refine w_dcons ?_) | (with_reducible refine w_sTup ?_) | (with_reducible refine w_subAdd ⟨_, rfl⟩ ?_) | ((fail_if_success (with_reducible refine W.idt ?_)); first | (refine ⟨_, _, _, rfl, rfl, (by first | exact eqD_int _ _ | exact neD_int _ _ | exact addD_int _ _ | exact subD_int _ _ | exact eqD_str _ _ | exact neD_str _ _ | (rw [ixD_list]; rfl) | (rw [ixD_tuple]; rfl) | exact powD_int _ _ (by decide) | exact modD_int _ _ (by omega) | exact mulA_int _ _ (cmul_small (by constructor <;> omega) (by constructor <;> omega)) | exact divD_int _ _ (cdiv_small (by constructor <;> omega)) | exact (rfl : ltD (.int _) (.int _) = _) | exact (rfl : leD (.int _) (.int _) = _) | exact (rfl : gtD (.int _) (.int _) = _) | exact (rfl : geD (.int _) (.int _) = _)), ?_⟩) | (refine ⟨_, _, _, rfl, rfl, rfl, ?_⟩) | (refine ⟨_, rfl, ⟨_, rfl⟩, ?_⟩) | (refine ⟨_, rfl, rfl, ?_⟩) | (refine ⟨_, rfl, (by assumption : Fr.isObj _ = false), ?_⟩) | (refine ⟨_, _, rfl, (by assumption : (_ : Option Sl) = some _), ?_⟩) | (refine ⟨_, _, _, rfl, rfl, (by assumption : (_ : Option Sl) = some _), ?_⟩) | (refine ⟨_, _, rfl, rfl, ?_⟩) | (refine ⟨_, rfl, Nat.le_of_ble_eq_true rfl, ?_⟩) | (refine ⟨_, rfl, (by omega), (by omega), ?_⟩) | (refine ⟨_, _, rfl, (by omega), ?_⟩) | (refine ⟨_, rfl, ?_⟩) | (refine .inl ⟨_, .inl rfl, ?_⟩) | (refine .inl ⟨_, .inr rfl, ?_⟩) | (refine .inr ⟨_, rfl, ?_⟩))); try dsimp only [List.set_cons_zero, List.set_cons_succ])
      refine w_take rfl (w_c ⟨rfl, rfl⟩) b3 (by omega) (by omega) (by omega) fun w d4 h5 h6 b4 => ?_
      obtain ⟨x, ex, hx⟩ := atI_nat (xs := [PyData.str "A", .str "0", .str " ", .str "\n", .str "_", .str "-", .str "{", .str "`", .str "Z"]) h5 h6
      have hx : ∃ y : Str, x = .str y ∧ y.length = 1 ∧ ∀ c ∈ y.cps.toList, c < 128 := by
        simp only [List.mem_cons, List.not_mem_nil, or_false] at hx
        rcases hx with rfl | rfl | rfl | rfl | rfl | rfl | rfl | rfl | rfl <;> exact ⟨_, rfl, by decide +kernel, by decide +kernel⟩
      obtain ⟨y, rfl, hy1, hy2⟩ := hx
      refine ⟨_, _, _, rfl, rfl, (by rw [ixD_list, ex]; rfl), ?_⟩
      refine ⟨_, _, _, rfl, rfl, addD_str _ _ (by have := size_big; omega), ?_⟩
      repeat ((first | (with_reducible refine w_varE ?_; refine ⟨_, rfl, ?_⟩) | (with_reducible refine w_varF ?_; refine ⟨⟨_, rfl⟩, ?_⟩) | (with_reducible refine w_seq ?_) | (with_reducible refine w_if ?_) | (with_reducible refine w_and ?_) | (with_reducible refine w_or ?_) | (with_reducible refine w_not ?_) | (with_reducible refine w_ite ?_) | (with_reducible refine w_expr ?_) | (with_reducible refine w_ret ?_) | (with_reducible refine w_setV ?_) | (with_reducible refine w_setO ?_) | (with_reducible refine w_m2 ?_) | (with_reducible refine w_m1 ?_) | (with_reducible refine w_mB ?_) | (with_reducible refine w_mCh ?_) | (with_reducible refine w_andV ?_) | (with_reducible refine w_orV ?_) | (with_reducible refine w_notV ?_) | (with_reducible refine w_c ?_) | (with_reducible refine w_acons ?_) | (with_reducible refine w_anil ?_) | (with_reducible refine w_n ?_) | (with_reducible refine w_lst ?_) | (with_reducible refine w_tup ?_) | (with_reducible refine w_next ?_) | (with_reducible refine w_brk ?_) | (with_reducible refine w_cont ?_) | (with_reducible refine w_iR1 ?_) | (with_reducible refine w_iR2 ?_) | (with_reducible refine w_iQ ?_) | (with_reducible refine w_par2 ?_) | (with_reducible refine w_fzF ?_) | (with_reducible refine w_fzT ?_) | (with_reducible refine w_sub ?_) | (with_reducible refine w_yes ?_) | (with_reducible refine w_m ?_) | (with_reducible refine w_isi ?_) | (with_reducible refine w_sl ?_) | (with_reducible refine w_pNo ?_) | (with_reducible refine w_pI ?_) | (with_reducible refine w_disp ?_) | (with_reducible refine w_dnil ?_) | (with_reducible refine w_dcons ?_) | (with_reducible refine w_sTup ?_) | (with_reducible refine w_subAdd ⟨_, rfl⟩ ?_) | ((fail_if_success (with_reducible refine W.idt ?_)); first | (refine ⟨_, _, _, rfl, rfl, (by first | exact eqD_int _ _ | exact neD_int _ _ | exact addD_int _ _ | exact subD_int _ _ | exact eqD_str _ _ | exact neD_str _ _ | (rw [ixD_list]; rfl) | (rw [ixD_tuple]; rfl) | exact powD_int _ _ (by decide) | exact modD_int _ _ (by omega) | exact mulA_int _ _ (cmul_small (by constructor <;> omega) (by constructor <;> omega)) | exact divD_int _ _ (cdiv_small (by constructor <;> omega)) | exact (rfl : ltD (.int _) (.int _) = _) | exact (rfl : leD (.int _) (.int _) = _) | exact (rfl : gtD (.int _) (.int _) = _) | exact (rfl : geD (.int _) (.int _) = _)), ?_⟩) | (refine ⟨_, _, _, rfl, rfl, rfl, ?_⟩) | (refine ⟨_, rfl, ⟨_, rfl⟩, ?_⟩) | (refine ⟨_, rfl, rfl, ?_⟩) | (refine ⟨_, rfl, (by assumption : Fr.isObj _ = false), ?_⟩) | (refine ⟨_, _, rfl, (by assumption : (_ : Option Sl) = some _), ?_⟩) | (refine ⟨_, _, _, rfl, rfl, (by assumption : (_ : Option Sl) = some _), ?_⟩) | (refine ⟨_, _, rfl, rfl, ?_⟩) | (refine ⟨_, rfl, Nat.le_of_ble_eq_true rfl, ?_⟩) | (refine ⟨_, rfl, (by omega), (by omega), ?_⟩) | (refine ⟨_, _, rfl, (by omega), ?_⟩) | (refine ⟨_, rfl, ?_⟩) | (refine .inl ⟨_, .inl rfl, ?_⟩) | (refine .inl ⟨_, .inr rfl, ?_⟩) | (refine .inr ⟨_, rfl, ?_⟩))); try dsimp only [List.set_cons_zero, List.set_cons_succ])
      refine ⟨_, _, _, rfl, rfl, addD_str _ _ (by rw [strLen_append]; have := size_big; omega), ?_⟩
      refine q _ d4 ⟨by rw [strLen_append, strLen_append]; omega, fun c hc => ?_⟩ (b4.mono (by omega))
      have hc : c ∈ ((cutS z none (some u)).cps ++ y.cps ++ (cutS z (some u) none).cps).toList := hc
      rw [Array.toList_append, Array.toList_append, List.mem_append, List.mem_append] at hc
      rcases hc with (hc | hc) | hc
      · exact k1 c hc
      · exact hy2 c hc
      · exact k2 c hc
def Ba (x : D) : Prop := (∃ i : Int, x = .int i ∧ -(10 ^ 61) < i ∧ i < 10 ^ 61) ∨ (∃ b, x = .bool b) ∨ x = .none ∨ ∃ z, x = .str z ∧ Tx z
def Th (t : D) : Prop := ∃ x, Ba x ∧ (t = x ∨ t = .list [x] ∨ t = .tuple [x] ∨ t = .dict [(.str "a", x)])
theorem thing_ok {n : Nat} {d : D} (h : Bg n d) (hn : n ≤ 800000) {Q : Rv × EV → Prop} (q : ∀ t d', Th t → Bg (n + 31) d' → Q (.val t, [some (.own d')])) : W (m__law_thing [some (.own d)]) Q := by
  unfold m__law_thing b__law_thing
  rw [show m__law_take = m_take from rfl]
  refine w_run rfl ?_
  dsimp only [List.replicate, List.append_nil, List.cons_append, List.nil_append, Nat.reduceSub]
  repeat ((first | (with_reducible refine w_varE ?_; refine ⟨_, rfl, ?_⟩) | (with_reducible refine w_varF ?_; refine ⟨⟨_, rfl⟩, ?_⟩) | (with_reducible refine w_seq ?_) | (with_reducible refine w_if ?_) | (with_reducible refine w_and ?_) | (with_reducible refine w_or ?_) | (with_reducible refine w_not ?_) | (with_reducible refine w_ite ?_) | (with_reducible refine w_expr ?_) | (with_reducible refine w_ret ?_) | (with_reducible refine w_setV ?_) | (with_reducible refine w_setO ?_) | (with_reducible refine w_m2 ?_) | (with_reducible refine w_m1 ?_) | (with_reducible refine w_mB ?_) | (with_reducible refine w_mCh ?_) | (with_reducible refine w_andV ?_) | (with_reducible refine w_orV ?_) | (with_reducible refine w_notV ?_) | (with_reducible refine w_c ?_) | (with_reducible refine w_acons ?_) | (with_reducible refine w_anil ?_) | (with_reducible refine w_n ?_) | (with_reducible refine w_lst ?_) | (with_reducible refine w_tup ?_) | (with_reducible refine w_next ?_) | (with_reducible refine w_brk ?_) | (with_reducible refine w_cont ?_) | (with_reducible refine w_iR1 ?_) | (with_reducible refine w_iR2 ?_) | (with_reducible refine w_iQ ?_) | (with_reducible refine w_par2 ?_) | (with_reducible refine w_fzF ?_) | (with_reducible refine w_fzT ?_) | (with_reducible refine w_sub ?_) | (with_reducible refine w_yes ?_) | (with_reducible refine w_m ?_) | (with_reducible refine w_isi ?_) | (with_reducible refine w_sl ?_) | (with_reducible refine w_pNo ?_) | (with_reducible refine w_pI ?_) | (with_reducible refine w_disp ?_) | (with_reducible refine w_dnil ?_) | (with_reducible refine w_dcons ?_) | (with_reducible refine w_sTup ?_) | (with_reducible refine w_subAdd ⟨_, rfl⟩ ?_) | ((fail_if_success (with_reducible refine W.idt ?_)); first | (refine ⟨_, _, _, rfl, rfl, (by first | exact eqD_int _ _ | exact neD_int _ _ | exact addD_int _ _ | exact subD_int _ _ | exact eqD_str _ _ | exact neD_str _ _ | (rw [ixD_list]; rfl) | (rw [ixD_tuple]; rfl) | exact powD_int _ _ (by decide) | exact modD_int _ _ (by omega) | exact mulA_int _ _ (cmul_small (by constructor <;> omega) (by constructor <;> omega)) | exact divD_int _ _ (cdiv_small (by constructor <;> omega)) | exact (rfl : ltD (.int _) (.int _) = _) | exact (rfl : leD (.int _) (.int _) = _) | exact (rfl : gtD (.int _) (.int _) = _) | exact (rfl : geD (.int _) (.int _) = _)), ?_⟩) | (refine ⟨_, _, _, rfl, rfl, rfl, ?_⟩) | (refine ⟨_, rfl, ⟨_, rfl⟩, ?_⟩) | (refine ⟨_, rfl, rfl, ?_⟩) | (refine ⟨_, rfl, (by assumption : Fr.isObj _ = false), ?_⟩) | (refine ⟨_, _, rfl, (by assumption : (_ : Option Sl) = some _), ?_⟩) | (refine ⟨_, _, _, rfl, rfl, (by assumption : (_ : Option Sl) = some _), ?_⟩) | (refine ⟨_, _, rfl, rfl, ?_⟩) | (refine ⟨_, rfl, Nat.le_of_ble_eq_true rfl, ?_⟩) | (refine ⟨_, rfl, (by omega), (by omega), ?_⟩) | (refine ⟨_, _, rfl, (by omega), ?_⟩) | (refine ⟨_, rfl, ?_⟩) | (refine .inl ⟨_, .inl rfl, ?_⟩) | (refine .inl ⟨_, .inr rfl, ?_⟩) | (refine .inr ⟨_, rfl, ?_⟩))); try dsimp only [List.set_cons_zero, List.set_cons_succ])
  refine w_take rfl (w_m2 (w_c (w_c ⟨_, _, _, rfl, rfl, powD_int _ _ (by decide), rfl, rfl⟩))) h (by omega) (by decide) (by decide) fun v d1 h1 h2 b1 => ?_
  repeat ((first | (with_reducible refine w_varE ?_; refine ⟨_, rfl, ?_⟩) | (with_reducible refine w_varF ?_; refine ⟨⟨_, rfl⟩, ?_⟩) | (with_reducible refine w_seq ?_) | (with_reducible refine w_if ?_) | (with_reducible refine w_and ?_) | (with_reducible refine w_or ?_) | (with_reducible refine w_not ?_) | (with_reducible refine w_ite ?_) | (with_reducible refine w_expr ?_) | (with_reducible refine w_ret ?_) | (with_reducible refine w_setV ?_) | (with_reducible refine w_setO ?_) | (with_reducible refine w_m2 ?_) | (with_reducible refine w_m1 ?_) | (with_reducible refine w_mB ?_) | (with_reducible refine w_mCh ?_) | (with_reducible refine w_andV ?_) | (with_reducible refine w_orV ?_) | (with_reducible refine w_notV ?_) | (with_reducible refine w_c ?_) | (with_reducible refine w_acons ?_) | (with_reducible refine w_anil ?_) | (with_reducible refine w_n ?_) | (with_reducible refine w_lst ?_) | (with_reducible refine w_tup ?_) | (with_reducible refine w_next ?_) | (with_reducible refine w_brk ?_) | (with_reducible refine w_cont ?_) | (with_reducible refine w_iR1 ?_) | (with_reducible refine w_iR2 ?_) | (with_reducible refine w_iQ ?_) | (with_reducible refine w_par2 ?_) | (with_reducible refine w_fzF ?_) | (with_reducible refine w_fzT ?_) | (with_reducible refine w_sub ?_) | (with_reducible refine w_yes ?_) | (with_reducible refine w_m ?_) | (with_reducible refine w_isi ?_) | (with_reducible refine w_sl ?_) | (with_reducible refine w_pNo ?_) | (with_reducible refine w_pI ?_) | (with_reducible refine w_disp ?_) | (with_reducible refine w_dnil ?_) | (with_reducible refine w_dcons ?_) | (with_reducible refine w_sTup ?_) | (with_reducible refine w_subAdd ⟨_, rfl⟩ ?_) | ((fail_if_success (with_reducible refine W.idt ?_)); first | (refine ⟨_, _, _, rfl, rfl, (by first | exact eqD_int _ _ | exact neD_int _ _ | exact addD_int _ _ | exact subD_int _ _ | exact eqD_str _ _ | exact neD_str _ _ | (rw [ixD_list]; rfl) | (rw [ixD_tuple]; rfl) | exact powD_int _ _ (by decide) | exact modD_int _ _ (by omega) | exact mulA_int _ _ (cmul_small (by constructor <;> omega) (by constructor <;> omega)) | exact divD_int _ _ (cdiv_small (by constructor <;> omega)) | exact (rfl : ltD (.int _) (.int _) = _) | exact (rfl : leD (.int _) (.int _) = _) | exact (rfl : gtD (.int _) (.int _) = _) | exact (rfl : geD (.int _) (.int _) = _)), ?_⟩) | (refine ⟨_, _, _, rfl, rfl, rfl, ?_⟩) | (refine ⟨_, rfl, ⟨_, rfl⟩, ?_⟩) | (refine ⟨_, rfl, rfl, ?_⟩) | (refine ⟨_, rfl, (by assumption : Fr.isObj _ = false), ?_⟩) | (refine ⟨_, _, rfl, (by assumption : (_ : Option Sl) = some _), ?_⟩) | (refine ⟨_, _, _, rfl, rfl, (by assumption : (_ : Option Sl) = some _), ?_⟩) | (refine ⟨_, _, rfl, rfl, ?_⟩) | (refine ⟨_, rfl, Nat.le_of_ble_eq_true rfl, ?_⟩) | (refine ⟨_, rfl, (by omega), (by omega), ?_⟩) | (refine ⟨_, _, rfl, (by omega), ?_⟩) | (refine ⟨_, rfl, ?_⟩) | (refine .inl ⟨_, .inl rfl, ?_⟩) | (refine .inl ⟨_, .inr rfl, ?_⟩) | (refine .inr ⟨_, rfl, ?_⟩))); try dsimp only [List.set_cons_zero, List.set_cons_succ])
  refine w_fnO rfl (text_ok b1 (by omega) fun z1 d2 t1 b2 => ⟨rfl, _, rfl, ?_⟩)
  repeat ((first | (with_reducible refine w_varE ?_; refine ⟨_, rfl, ?_⟩) | (with_reducible refine w_varF ?_; refine ⟨⟨_, rfl⟩, ?_⟩) | (with_reducible refine w_seq ?_) | (with_reducible refine w_if ?_) | (with_reducible refine w_and ?_) | (with_reducible refine w_or ?_) | (with_reducible refine w_not ?_) | (with_reducible refine w_ite ?_) | (with_reducible refine w_expr ?_) | (with_reducible refine w_ret ?_) | (with_reducible refine w_setV ?_) | (with_reducible refine w_setO ?_) | (with_reducible refine w_m2 ?_) | (with_reducible refine w_m1 ?_) | (with_reducible refine w_mB ?_) | (with_reducible refine w_mCh ?_) | (with_reducible refine w_andV ?_) | (with_reducible refine w_orV ?_) | (with_reducible refine w_notV ?_) | (with_reducible refine w_c ?_) | (with_reducible refine w_acons ?_) | (with_reducible refine w_anil ?_) | (with_reducible refine w_n ?_) | (with_reducible refine w_lst ?_) | (with_reducible refine w_tup ?_) | (with_reducible refine w_next ?_) | (with_reducible refine w_brk ?_) | (with_reducible refine w_cont ?_) | (with_reducible refine w_iR1 ?_) | (with_reducible refine w_iR2 ?_) | (with_reducible refine w_iQ ?_) | (with_reducible refine w_par2 ?_) | (with_reducible refine w_fzF ?_) | (with_reducible refine w_fzT ?_) | (with_reducible refine w_sub ?_) | (with_reducible refine w_yes ?_) | (with_reducible refine w_m ?_) | (with_reducible refine w_isi ?_) | (with_reducible refine w_sl ?_) | (with_reducible refine w_pNo ?_) | (with_reducible refine w_pI ?_) | (with_reducible refine w_disp ?_) | (with_reducible refine w_dnil ?_) | (with_reducible refine w_dcons ?_) | (with_reducible refine w_sTup ?_) | (with_reducible refine w_subAdd ⟨_, rfl⟩ ?_) | ((fail_if_success (with_reducible refine W.idt ?_)); first | (refine ⟨_, _, _, rfl, rfl, (by first | exact eqD_int _ _ | exact neD_int _ _ | exact addD_int _ _ | exact subD_int _ _ | exact eqD_str _ _ | exact neD_str _ _ | (rw [ixD_list]; rfl) | (rw [ixD_tuple]; rfl) | exact powD_int _ _ (by decide) | exact modD_int _ _ (by omega) | exact mulA_int _ _ (cmul_small (by constructor <;> omega) (by constructor <;> omega)) | exact divD_int _ _ (cdiv_small (by constructor <;> omega)) | exact (rfl : ltD (.int _) (.int _) = _) | exact (rfl : leD (.int _) (.int _) = _) | exact (rfl : gtD (.int _) (.int _) = _) | exact (rfl : geD (.int _) (.int _) = _)), ?_⟩) | (refine ⟨_, _, _, rfl, rfl, rfl, ?_⟩) | (refine ⟨_, rfl, ⟨_, rfl⟩, ?_⟩) | (refine ⟨_, rfl, rfl, ?_⟩) | (refine ⟨_, rfl, (by assumption : Fr.isObj _ = false), ?_⟩) | (refine ⟨_, _, rfl, (by assumption : (_ : Option Sl) = some _), ?_⟩) | (refine ⟨_, _, _, rfl, rfl, (by assumption : (_ : Option Sl) = some _), ?_⟩) | (refine ⟨_, _, rfl, rfl, ?_⟩) | (refine ⟨_, rfl, Nat.le_of_ble_eq_true rfl, ?_⟩) | (refine ⟨_, rfl, (by omega), (by omega), ?_⟩) | (refine ⟨_, _, rfl, (by omega), ?_⟩) | (refine ⟨_, rfl, ?_⟩) | (refine .inl ⟨_, .inl rfl, ?_⟩) | (refine .inl ⟨_, .inr rfl, ?_⟩) | (refine .inr ⟨_, rfl, ?_⟩))); try dsimp only [List.set_cons_zero, List.set_cons_succ])
  refine w_fnO rfl (text_ok b2 (by omega) fun z2 d3 t2 b3 => ⟨rfl, _, rfl, ?_⟩)
  repeat ((first | (with_reducible refine w_varE ?_; refine ⟨_, rfl, ?_⟩) | (with_reducible refine w_varF ?_; refine ⟨⟨_, rfl⟩, ?_⟩) | (with_reducible refine w_seq ?_) | (with_reducible refine w_if ?_) | (with_reducible refine w_and ?_) | (with_reducible refine w_or ?_) | (with_reducible refine w_not ?_) | (with_reducible refine w_ite ?_) | (with_reducible refine w_expr ?_) | (with_reducible refine w_ret ?_) | (with_reducible refine w_setV ?_) | (with_reducible refine w_setO ?_) | (with_reducible refine w_m2 ?_) | (with_reducible refine w_m1 ?_) | (with_reducible refine w_mB ?_) | (with_reducible refine w_mCh ?_) | (with_reducible refine w_andV ?_) | (with_reducible refine w_orV ?_) | (with_reducible refine w_notV ?_) | (with_reducible refine w_c ?_) | (with_reducible refine w_acons ?_) | (with_reducible refine w_anil ?_) | (with_reducible refine w_n ?_) | (with_reducible refine w_lst ?_) | (with_reducible refine w_tup ?_) | (with_reducible refine w_next ?_) | (with_reducible refine w_brk ?_) | (with_reducible refine w_cont ?_) | (with_reducible refine w_iR1 ?_) | (with_reducible refine w_iR2 ?_) | (with_reducible refine w_iQ ?_) | (with_reducible refine w_par2 ?_) | (with_reducible refine w_fzF ?_) | (with_reducible refine w_fzT ?_) | (with_reducible refine w_sub ?_) | (with_reducible refine w_yes ?_) | (with_reducible refine w_m ?_) | (with_reducible refine w_isi ?_) | (with_reducible refine w_sl ?_) | (with_reducible refine w_pNo ?_) | (with_reducible refine w_pI ?_) | (with_reducible refine w_disp ?_) | (with_reducible refine w_dnil ?_) | (with_reducible refine w_dcons ?_) | (with_reducible refine w_sTup ?_) | (with_reducible refine w_subAdd ⟨_, rfl⟩ ?_) | ((fail_if_success (with_reducible refine W.idt ?_)); first | (refine ⟨_, _, _, rfl, rfl, (by first | exact eqD_int _ _ | exact neD_int _ _ | exact addD_int _ _ | exact subD_int _ _ | exact eqD_str _ _ | exact neD_str _ _ | (rw [ixD_list]; rfl) | (rw [ixD_tuple]; rfl) | exact powD_int _ _ (by decide) | exact modD_int _ _ (by omega) | exact mulA_int _ _ (cmul_small (by constructor <;> omega) (by constructor <;> omega)) | exact divD_int _ _ (cdiv_small (by constructor <;> omega)) | exact (rfl : ltD (.int _) (.int _) = _) | exact (rfl : leD (.int _) (.int _) = _) | exact (rfl : gtD (.int _) (.int _) = _) | exact (rfl : geD (.int _) (.int _) = _)), ?_⟩) | (refine ⟨_, _, _, rfl, rfl, rfl, ?_⟩) | (refine ⟨_, rfl, ⟨_, rfl⟩, ?_⟩) | (refine ⟨_, rfl, rfl, ?_⟩) | (refine ⟨_, rfl, (by assumption : Fr.isObj _ = false), ?_⟩) | (refine ⟨_, _, rfl, (by assumption : (_ : Option Sl) = some _), ?_⟩) | (refine ⟨_, _, _, rfl, rfl, (by assumption : (_ : Option Sl) = some _), ?_⟩) | (refine ⟨_, _, rfl, rfl, ?_⟩) | (refine ⟨_, rfl, Nat.le_of_ble_eq_true rfl, ?_⟩) | (refine ⟨_, rfl, (by omega), (by omega), ?_⟩) | (refine ⟨_, _, rfl, (by omega), ?_⟩) | (refine ⟨_, rfl, ?_⟩) | (refine .inl ⟨_, .inl rfl, ?_⟩) | (refine .inl ⟨_, .inr rfl, ?_⟩) | (refine .inr ⟨_, rfl, ?_⟩))); try dsimp only [List.set_cons_zero, List.set_cons_succ])
  dsimp only [List.cons_append, List.nil_append]
  refine w_take rfl (w_c ⟨rfl, rfl⟩) b3 (by omega) (by omega) (by omega) fun u d4 h3 h4 b4 => ?_
  obtain ⟨x, ex, hx⟩ := atI_nat (xs := [PyData.int 0, .int 1, .int (-1), .int v, .int (10 ^ Int.toNat 60), .int (1 - 10 ^ Int.toNat 45), .bool true, .bool false, .none, .str z1, .str z2]) h3 h4
  have bx : Ba x := by
    have e12 : (10 : Int) ^ Int.toNat 12 = 1000000000000 := by decide
    simp only [List.mem_cons, List.not_mem_nil, or_false] at hx
    rcases hx with rfl | rfl | rfl | rfl | rfl | rfl | rfl | rfl | rfl | rfl | rfl
    · exact .inl ⟨_, rfl, by decide, by decide⟩
    · exact .inl ⟨_, rfl, by decide, by decide⟩
    · exact .inl ⟨_, rfl, by decide, by decide⟩
    · exact .inl ⟨_, rfl, by omega, by omega⟩
    · exact .inl ⟨_, rfl, by decide, by decide⟩
    · exact .inl ⟨_, rfl, by decide, by decide⟩
    · exact .inr (.inl ⟨_, rfl⟩)
    · exact .inr (.inl ⟨_, rfl⟩)
    · exact .inr (.inr (.inl rfl))
    · exact .inr (.inr (.inr ⟨_, rfl, t1⟩))
    · exact .inr (.inr (.inr ⟨_, rfl, t2⟩))
  refine ⟨_, _, _, rfl, rfl, (by rw [ixD_list]; exact congrArg (Option.map Sl.val) ex), ?_⟩
  clear hx ex
  repeat ((first | (with_reducible refine w_varE ?_; refine ⟨_, rfl, ?_⟩) | (with_reducible refine w_varF ?_; refine ⟨⟨_, rfl⟩, ?_⟩) | (with_reducible refine w_seq ?_) | (with_reducible refine w_if ?_) | (with_reducible refine w_and ?_) | (with_reducible refine w_or ?_) | (with_reducible refine w_not ?_) | (with_reducible refine w_ite ?_) | (with_reducible refine w_expr ?_) | (with_reducible refine w_ret ?_) | (with_reducible refine w_setV ?_) | (with_reducible refine w_setO ?_) | (with_reducible refine w_m2 ?_) | (with_reducible refine w_m1 ?_) | (with_reducible refine w_mB ?_) | (with_reducible refine w_mCh ?_) | (with_reducible refine w_andV ?_) | (with_reducible refine w_orV ?_) | (with_reducible refine w_notV ?_) | (with_reducible refine w_c ?_) | (with_reducible refine w_acons ?_) | (with_reducible refine w_anil ?_) | (with_reducible refine w_n ?_) | (with_reducible refine w_lst ?_) | (with_reducible refine w_tup ?_) | (with_reducible refine w_next ?_) | (with_reducible refine w_brk ?_) | (with_reducible refine w_cont ?_) | (with_reducible refine w_iR1 ?_) | (with_reducible refine w_iR2 ?_) | (with_reducible refine w_iQ ?_) | (with_reducible refine w_par2 ?_) | (with_reducible refine w_fzF ?_) | (with_reducible refine w_fzT ?_) | (with_reducible refine w_sub ?_) | (with_reducible refine w_yes ?_) | (with_reducible refine w_m ?_) | (with_reducible refine w_isi ?_) | (with_reducible refine w_sl ?_) | (with_reducible refine w_pNo ?_) | (with_reducible refine w_pI ?_) | (with_reducible refine w_disp ?_) | (with_reducible refine w_dnil ?_) | (with_reducible refine w_dcons ?_) | (with_reducible refine w_sTup ?_) | (with_reducible refine w_subAdd ⟨_, rfl⟩ ?_) | ((fail_if_success (with_reducible refine W.idt ?_)); first | (refine ⟨_, _, _, rfl, rfl, (by first | exact eqD_int _ _ | exact neD_int _ _ | exact addD_int _ _ | exact subD_int _ _ | exact eqD_str _ _ | exact neD_str _ _ | (rw [ixD_list]; rfl) | (rw [ixD_tuple]; rfl) | exact powD_int _ _ (by decide) | exact modD_int _ _ (by omega) | exact mulA_int _ _ (cmul_small (by constructor <;> omega) (by constructor <;> omega)) | exact divD_int _ _ (cdiv_small (by constructor <;> omega)) | exact (rfl : ltD (.int _) (.int _) = _) | exact (rfl : leD (.int _) (.int _) = _) | exact (rfl : gtD (.int _) (.int _) = _) | exact (rfl : geD (.int _) (.int _) = _)), ?_⟩) | (refine ⟨_, _, _, rfl, rfl, rfl, ?_⟩) | (refine ⟨_, rfl, ⟨_, rfl⟩, ?_⟩) | (refine ⟨_, rfl, rfl, ?_⟩) | (refine ⟨_, rfl, (by assumption : Fr.isObj _ = false), ?_⟩) | (refine ⟨_, _, rfl, (by assumption : (_ : Option Sl) = some _), ?_⟩) | (refine ⟨_, _, _, rfl, rfl, (by assumption : (_ : Option Sl) = some _), ?_⟩) | (refine ⟨_, _, rfl, rfl, ?_⟩) | (refine ⟨_, rfl, Nat.le_of_ble_eq_true rfl, ?_⟩) | (refine ⟨_, rfl, (by omega), (by omega), ?_⟩) | (refine ⟨_, _, rfl, (by omega), ?_⟩) | (refine ⟨_, rfl, ?_⟩) | (refine .inl ⟨_, .inl rfl, ?_⟩) | (refine .inl ⟨_, .inr rfl, ?_⟩) | (refine .inr ⟨_, rfl, ?_⟩))); try dsimp only [List.set_cons_zero, List.set_cons_succ])
  refine w_take rfl (w_c ⟨rfl, rfl⟩) b4 (by omega) (by omega) (by omega) fun w d5 h5 h6 b5 => ?_
  obtain ⟨t, et, ht⟩ := atI_nat (xs := [x, x, x, .list [x], .tuple [x], .dict [(.str "a", x)]]) h5 h6
  refine ⟨_, _, _, rfl, rfl, (by rw [ixD_list]; exact congrArg (Option.map Sl.val) et), ?_⟩
  refine q t d5 ⟨x, bx, ?_⟩ (b5.mono (by omega))
  simp only [List.mem_cons, List.not_mem_nil, or_false] at ht
  rcases ht with rfl | rfl | rfl | rfl | rfl | rfl
  · exact .inl rfl
  · exact .inl rfl
  · exact .inl rfl
  · exact .inr (.inl rfl)
  · exact .inr (.inr (.inl rfl))
  · exact .inr (.inr (.inr rfl))
theorem Ba.facts {x : D} (h : Ba x) : x.canLay0 = true ∧ x.showable = true ∧ x.depth = 0 ∧ x.leavesShort 100 = true ∧ x.weight ≤ 300 ∧ flatD x = true ∧ isObj x = false ∧ ∀ z, x = .str z → Tx z := by
  rcases h with ⟨i, rfl, h1, h2⟩ | ⟨b, rfl⟩ | rfl | ⟨z, rfl, h⟩
  · have a : i.natAbs < 10 ^ 61 := by omega
    have l : i.natAbs.log2 < 210 := log2_small (Nat.lt_trans a (by decide)) (by decide)
    refine ⟨rfl, ?_, rfl, ?_, ?_, rfl, rfl, fun z e => by cases e⟩
    · simp only [PyData.showable, decide_eq_true_eq]; omega
    · have e := int_text_length_le10 (k := 61) (by decide) a
      simp only [PyData.leavesShort, decide_eq_true_eq]
      show (Str.ofString (toString i)).length ≤ 100
      rw [ofString_length]; omega
    · simp only [PyData.weight]; split <;> omega
  · exact ⟨rfl, rfl, rfl, rfl, Nat.zero_le _, rfl, rfl, fun z e => by cases e⟩
  · exact ⟨rfl, rfl, rfl, rfl, Nat.zero_le _, rfl, rfl, fun z e => by cases e⟩
  · refine ⟨?_, rfl, rfl, ?_, ?_, rfl, rfl, fun z e => by cases e; exact h⟩
    · simp only [PyData.canLay0, PyData.strOk, ← Array.all_toList, List.all_eq_true, decide_eq_true_eq]
      intro c hc; have := h.2 c hc; omega
    · simp only [PyData.leavesShort, List.all_eq_true, decide_eq_true_eq]
      intro c hc; have := h.2 c hc; have e : (16 : Nat) ^ 8 = 4294967296 := by decide
      omega
    · have : z.cps.size ≤ 12 := h.1
      simp only [PyData.weight]; omega
theorem repr_lay {d : D} (h1 : d.canLay0 = true) (h2 : d.showable = true) (h3 : d.depth ≤ 64) (h4 : d.shown.length ≤ sizeLine) : reprA [d] = some (.val (.str d.shown)) := by
  have e : reprD [d] = some (.val (.str d.shown)) := by
    simp only [reprD, one, reprD1, h1, h2, Bool.true_and, Bool.and_eq_true, decide_eq_true_eq]
    rw [if_pos ⟨h3, h4⟩]
  unfold reprA
  rw [e]; rfl
theorem Th.facts {t : D} (h : Th t) : reprA [t] = some (.val (.str t.shown)) ∧ isObj t = false ∧ ∀ z, t = .str z → Tx z := by
  obtain ⟨x, b, h⟩ := h
  obtain ⟨f1, f2, f3, f4, f5, f6, f7, f8⟩ := b.facts
  have sl := size_big
  rcases h with rfl | rfl | rfl | rfl
  · refine ⟨repr_lay f1 f2 (by omega) ?_, f7, f8⟩
    have := PyData.shown_le 100 (by decide) t f4
    omega
  · refine ⟨repr_lay (by simp only [PyData.canLay0, PyData.canLayAll0, f1]; rfl) (by simp only [PyData.showable, PyData.showableAll, f2]; rfl) (by simp only [PyData.depth, PyData.depthAll, f3]; decide) ?_, rfl, fun z e => by cases e⟩
    have := PyData.shown_le 100 (by decide) (.list [x]) (by simp only [PyData.leavesShort, PyData.leavesShortAll, f4]; rfl)
    simp only [PyData.weight, PyData.weightAll] at this
    omega
  · refine ⟨repr_lay (by simp only [PyData.canLay0, PyData.canLayAll0, f1]; rfl) (by simp only [PyData.showable, PyData.showableAll, f2]; rfl) (by simp only [PyData.depth, PyData.depthAll, f3]; decide) ?_, rfl, fun z e => by cases e⟩
    have := PyData.shown_le 100 (by decide) (.tuple [x]) (by simp only [PyData.leavesShort, PyData.leavesShortAll, f4]; rfl)
    simp only [PyData.weight, PyData.weightAll] at this
    omega
  · refine ⟨?_, rfl, fun z e => by cases e⟩
    have l := PyData.shown_le 100 (by decide) (.dict [(.str "a", x)]) (by simp only [PyData.leavesShort, PyData.leavesShortKv, f4]; decide)
    have w : (PyData.str "a").weight = 1 := by decide
    simp only [PyData.weight, PyData.weightKv] at l
    have w2 : ("a" : Str).cps.size = 1 := by decide
    have e1 : reprD [.dict [(.str "a", x)]] = none := rfl
    have e2 : one reprK [.dict [(.str "a", x)]] = some (.val (.str (PyData.dict [(.str "a", x)]).shown)) := by
      have c : ((keysD [(PyData.str "a", x)]).isSome && ![(PyData.str "a", x)].isEmpty && flatKv [(PyData.str "a", x)] && (PyData.dict [(.str "a", x)]).showable && decide ((PyData.dict [(.str "a", x)]).depth ≤ 64) && decide ((PyData.dict [(.str "a", x)]).shown.length ≤ sizeLine)) = true := by
        have c1 : flatKv [(PyData.str "a", x)] = true := by simp only [flatKv, List.all_cons, List.all_nil, f6]; rfl
        have c2 : (PyData.dict [(.str "a", x)]).showable = true := by simp only [PyData.showable, PyData.showableKv, f2]; rfl
        have c3 : (PyData.dict [(.str "a", x)]).depth ≤ 64 := by simp only [PyData.depth, PyData.depthKv, f3]; decide
        rw [c1, c2, decide_eq_true c3, decide_eq_true (show (PyData.dict [(.str "a", x)]).shown.length ≤ sizeLine by omega)]
        rfl
      show (if _ then _ else _) = _
      exact if_pos c
    unfold reprA
    rw [e1, e2]; rfl
theorem pair_repr (a b : Bool) : reprA [.list [.bool a, .bool b]] = some (.val (.str (PyData.list [.bool a, .bool b]).shown)) := by
  refine repr_lay rfl rfl (Nat.le_of_ble_eq_true rfl) ?_
  have := PyData.shown_le 100 (by decide) (.list [.bool a, .bool b]) rfl
  have sl := size_big
  simp only [PyData.weight, PyData.weightAll] at this
  omega
theorem alike_ok (a b : Bool) {Q : Rv × EV → Prop} (q : Q (.val (.bool true), [some (.val (.list [.bool a, .bool b])), some (.val (.list [.bool a, .bool b]))])) : W (m__law_alike [some (.val (.list [.bool a, .bool b])), some (.val (.list [.bool a, .bool b]))]) Q := by
  unfold m__law_alike b__law_alike
  refine w_run rfl ?_
  dsimp only [List.replicate, List.append_nil, List.cons_append, List.nil_append, Nat.reduceSub]
  have e := pair_repr a b
  have eq : eqD (.list [.bool a, .bool b]) (.list [.bool a, .bool b]) = some (.val (.bool true)) := by cases a <;> cases b <;> rfl
  repeat' (first | ((first | (with_reducible refine w_varE ?_; refine ⟨_, rfl, ?_⟩) | (with_reducible refine w_varF ?_; refine ⟨⟨_, rfl⟩, ?_⟩) | (with_reducible refine w_seq ?_) | (with_reducible refine w_if ?_) | (with_reducible refine w_and ?_) | (with_reducible refine w_or ?_) | (with_reducible refine w_not ?_) | (with_reducible refine w_ite ?_) | (with_reducible refine w_expr ?_) | (with_reducible refine w_ret ?_) | (with_reducible refine w_setV ?_) | (with_reducible refine w_setO ?_) | (with_reducible refine w_m2 ?_) | (with_reducible refine w_m1 ?_) | (with_reducible refine w_mB ?_) | (with_reducible refine w_mCh ?_) | (with_reducible refine w_andV ?_) | (with_reducible refine w_orV ?_) | (with_reducible refine w_notV ?_) | (with_reducible refine w_c ?_) | (with_reducible refine w_acons ?_) | (with_reducible refine w_anil ?_) | (with_reducible refine w_n ?_) | (with_reducible refine w_lst ?_) | (with_reducible refine w_tup ?_) | (with_reducible refine w_next ?_) | (with_reducible refine w_brk ?_) | (with_reducible refine w_cont ?_) | (with_reducible refine w_iR1 ?_) | (with_reducible refine w_iR2 ?_) | (with_reducible refine w_iQ ?_) | (with_reducible refine w_par2 ?_) | (with_reducible refine w_fzF ?_) | (with_reducible refine w_fzT ?_) | (with_reducible refine w_sub ?_) | (with_reducible refine w_yes ?_) | (with_reducible refine w_m ?_) | (with_reducible refine w_isi ?_) | (with_reducible refine w_sl ?_) | (with_reducible refine w_pNo ?_) | (with_reducible refine w_pI ?_) | (with_reducible refine w_disp ?_) | (with_reducible refine w_dnil ?_) | (with_reducible refine w_dcons ?_) | (with_reducible refine w_sTup ?_) | (with_reducible refine w_subAdd ⟨_, rfl⟩ ?_) | ((fail_if_success (with_reducible refine W.idt ?_)); first | (refine ⟨_, _, _, rfl, rfl, (by first | exact eqD_int _ _ | exact neD_int _ _ | exact addD_int _ _ | exact subD_int _ _ | exact eqD_str _ _ | exact neD_str _ _ | (rw [ixD_list]; rfl) | (rw [ixD_tuple]; rfl) | exact powD_int _ _ (by decide) | exact modD_int _ _ (by omega) | exact mulA_int _ _ (cmul_small (by constructor <;> omega) (by constructor <;> omega)) | exact divD_int _ _ (cdiv_small (by constructor <;> omega)) | exact (rfl : ltD (.int _) (.int _) = _) | exact (rfl : leD (.int _) (.int _) = _) | exact (rfl : gtD (.int _) (.int _) = _) | exact (rfl : geD (.int _) (.int _) = _)), ?_⟩) | (refine ⟨_, _, _, rfl, rfl, rfl, ?_⟩) | (refine ⟨_, rfl, ⟨_, rfl⟩, ?_⟩) | (refine ⟨_, rfl, rfl, ?_⟩) | (refine ⟨_, rfl, (by assumption : Fr.isObj _ = false), ?_⟩) | (refine ⟨_, _, rfl, (by assumption : (_ : Option Sl) = some _), ?_⟩) | (refine ⟨_, _, _, rfl, rfl, (by assumption : (_ : Option Sl) = some _), ?_⟩) | (refine ⟨_, _, rfl, rfl, ?_⟩) | (refine ⟨_, rfl, Nat.le_of_ble_eq_true rfl, ?_⟩) | (refine ⟨_, rfl, (by omega), (by omega), ?_⟩) | (refine ⟨_, _, rfl, (by omega), ?_⟩) | (refine ⟨_, rfl, ?_⟩) | (refine .inl ⟨_, .inl rfl, ?_⟩) | (refine .inl ⟨_, .inr rfl, ?_⟩) | (refine .inr ⟨_, rfl, ?_⟩))); try dsimp only [List.set_cons_zero, List.set_cons_succ]) | (refine ⟨fun hc => ?_, fun hc => ?_⟩ <;> (first | (exact absurd hc Bool.false_ne_true) | (exact absurd hc.symm Bool.false_ne_true) | (simp only [Bool.not_eq_true', Bool.not_eq_false', decide_eq_true_eq, decide_eq_false_iff_not] at hc; try dsimp only) | skip)) | fail)
  · simp only [decide_true]
    exact q
  · cases a <;> cases b <;> cases hc
def absE : D → D
  | .int i => .int (if i < 0 then -i else i)
  | d => d
theorem abs_all : ∀ ns : List Int, ∃ cs : List Int, (ns.map PyData.int).map absE = cs.map PyData.int ∧ ∀ x ∈ cs, (0 : Int) ≤ x
  | [] => ⟨[], rfl, fun _ h => nomatch h⟩
  | n :: ns => by
    obtain ⟨cs, e, h⟩ := abs_all ns
    refine ⟨(if n < 0 then -n else n) :: cs, by rw [List.map_cons, List.map_cons, e]; rfl, fun x hx => ?_⟩
    rcases List.mem_cons.mp hx with rfl | hx
    · split <;> omega
    · exact h x hx
theorem bag_ok (ns : List Int) (hl : ns.length ≤ 63) {Q : Rv × EV → Prop} (q : ∀ d, Bg 0 d → Q (.own d, [some (.val (scrD ns))])) : W (m__law_bag [some (.val (scrD ns))]) Q := by
  unfold m__law_bag b__law_bag
  refine w_run rfl ?_
  dsimp only [List.replicate, List.append_nil, List.cons_append, List.nil_append, Nat.reduceSub]
  have ec : slD (scrD ns) none (some 63) = some (.own (.list (ns.map PyData.int))) := by
    have z : cutD (ns.map PyData.int) none (some 63) = ns.map PyData.int := by
      unfold cutD
      rw [HT.sIx_none, show (63 : Int) = ((63 : Nat) : Int) from rfl, HT.sIx_nat, List.length_map, List.drop_zero, Nat.min_eq_right hl, Nat.sub_zero, ← List.length_map (f := PyData.int), List.take_length]
    show some (Sl.own (.list (cutD (ns.map PyData.int) none (some 63)))) = _
    rw [z]
  obtain ⟨cs, e, hc⟩ := abs_all ns
  repeat ((first | (with_reducible refine w_varE ?_; refine ⟨_, rfl, ?_⟩) | (with_reducible refine w_varF ?_; refine ⟨⟨_, rfl⟩, ?_⟩) | (with_reducible refine w_seq ?_) | (with_reducible refine w_if ?_) | (with_reducible refine w_and ?_) | (with_reducible refine w_or ?_) | (with_reducible refine w_not ?_) | (with_reducible refine w_ite ?_) | (with_reducible refine w_expr ?_) | (with_reducible refine w_ret ?_) | (with_reducible refine w_setV ?_) | (with_reducible refine w_setO ?_) | (with_reducible refine w_m2 ?_) | (with_reducible refine w_m1 ?_) | (with_reducible refine w_mB ?_) | (with_reducible refine w_mCh ?_) | (with_reducible refine w_andV ?_) | (with_reducible refine w_orV ?_) | (with_reducible refine w_notV ?_) | (with_reducible refine w_c ?_) | (with_reducible refine w_acons ?_) | (with_reducible refine w_anil ?_) | (with_reducible refine w_n ?_) | (with_reducible refine w_lst ?_) | (with_reducible refine w_tup ?_) | (with_reducible refine w_next ?_) | (with_reducible refine w_brk ?_) | (with_reducible refine w_cont ?_) | (with_reducible refine w_iR1 ?_) | (with_reducible refine w_iR2 ?_) | (with_reducible refine w_iQ ?_) | (with_reducible refine w_par2 ?_) | (with_reducible refine w_fzF ?_) | (with_reducible refine w_fzT ?_) | (with_reducible refine w_sub ?_) | (with_reducible refine w_yes ?_) | (with_reducible refine w_m ?_) | (with_reducible refine w_isi ?_) | (with_reducible refine w_sl ?_) | (with_reducible refine w_pNo ?_) | (with_reducible refine w_pI ?_) | (with_reducible refine w_disp ?_) | (with_reducible refine w_dnil ?_) | (with_reducible refine w_dcons ?_) | (with_reducible refine w_sTup ?_) | (with_reducible refine w_subAdd ⟨_, rfl⟩ ?_) | ((fail_if_success (with_reducible refine W.idt ?_)); first | (refine ⟨_, _, _, rfl, rfl, (by first | exact eqD_int _ _ | exact neD_int _ _ | exact addD_int _ _ | exact subD_int _ _ | exact eqD_str _ _ | exact neD_str _ _ | (rw [ixD_list]; rfl) | (rw [ixD_tuple]; rfl) | exact powD_int _ _ (by decide) | exact modD_int _ _ (by omega) | exact mulA_int _ _ (cmul_small (by constructor <;> omega) (by constructor <;> omega)) | exact divD_int _ _ (cdiv_small (by constructor <;> omega)) | exact (rfl : ltD (.int _) (.int _) = _) | exact (rfl : leD (.int _) (.int _) = _) | exact (rfl : gtD (.int _) (.int _) = _) | exact (rfl : geD (.int _) (.int _) = _)), ?_⟩) | (refine ⟨_, _, _, rfl, rfl, rfl, ?_⟩) | (refine ⟨_, rfl, ⟨_, rfl⟩, ?_⟩) | (refine ⟨_, rfl, rfl, ?_⟩) | (refine ⟨_, rfl, (by assumption : Fr.isObj _ = false), ?_⟩) | (refine ⟨_, _, rfl, (by assumption : (_ : Option Sl) = some _), ?_⟩) | (refine ⟨_, _, _, rfl, rfl, (by assumption : (_ : Option Sl) = some _), ?_⟩) | (refine ⟨_, _, rfl, rfl, ?_⟩) | (refine ⟨_, rfl, Nat.le_of_ble_eq_true rfl, ?_⟩) | (refine ⟨_, rfl, (by omega), (by omega), ?_⟩) | (refine ⟨_, _, rfl, (by omega), ?_⟩) | (refine ⟨_, rfl, ?_⟩) | (refine .inl ⟨_, .inl rfl, ?_⟩) | (refine .inl ⟨_, .inr rfl, ?_⟩) | (refine .inr ⟨_, rfl, ?_⟩))); try dsimp only [List.set_cons_zero, List.set_cons_succ])
  refine w_lcP (fun _ => true) absE ?_
  repeat ((first | (with_reducible refine w_varE ?_; refine ⟨_, rfl, ?_⟩) | (with_reducible refine w_varF ?_; refine ⟨⟨_, rfl⟩, ?_⟩) | (with_reducible refine w_seq ?_) | (with_reducible refine w_if ?_) | (with_reducible refine w_and ?_) | (with_reducible refine w_or ?_) | (with_reducible refine w_not ?_) | (with_reducible refine w_ite ?_) | (with_reducible refine w_expr ?_) | (with_reducible refine w_ret ?_) | (with_reducible refine w_setV ?_) | (with_reducible refine w_setO ?_) | (with_reducible refine w_m2 ?_) | (with_reducible refine w_m1 ?_) | (with_reducible refine w_mB ?_) | (with_reducible refine w_mCh ?_) | (with_reducible refine w_andV ?_) | (with_reducible refine w_orV ?_) | (with_reducible refine w_notV ?_) | (with_reducible refine w_c ?_) | (with_reducible refine w_acons ?_) | (with_reducible refine w_anil ?_) | (with_reducible refine w_n ?_) | (with_reducible refine w_lst ?_) | (with_reducible refine w_tup ?_) | (with_reducible refine w_next ?_) | (with_reducible refine w_brk ?_) | (with_reducible refine w_cont ?_) | (with_reducible refine w_iR1 ?_) | (with_reducible refine w_iR2 ?_) | (with_reducible refine w_iQ ?_) | (with_reducible refine w_par2 ?_) | (with_reducible refine w_fzF ?_) | (with_reducible refine w_fzT ?_) | (with_reducible refine w_sub ?_) | (with_reducible refine w_yes ?_) | (with_reducible refine w_m ?_) | (with_reducible refine w_isi ?_) | (with_reducible refine w_sl ?_) | (with_reducible refine w_pNo ?_) | (with_reducible refine w_pI ?_) | (with_reducible refine w_disp ?_) | (with_reducible refine w_dnil ?_) | (with_reducible refine w_dcons ?_) | (with_reducible refine w_sTup ?_) | (with_reducible refine w_subAdd ⟨_, rfl⟩ ?_) | ((fail_if_success (with_reducible refine W.idt ?_)); first | (refine ⟨_, _, _, rfl, rfl, (by first | exact eqD_int _ _ | exact neD_int _ _ | exact addD_int _ _ | exact subD_int _ _ | exact eqD_str _ _ | exact neD_str _ _ | (rw [ixD_list]; rfl) | (rw [ixD_tuple]; rfl) | exact powD_int _ _ (by decide) | exact modD_int _ _ (by omega) | exact mulA_int _ _ (cmul_small (by constructor <;> omega) (by constructor <;> omega)) | exact divD_int _ _ (cdiv_small (by constructor <;> omega)) | exact (rfl : ltD (.int _) (.int _) = _) | exact (rfl : leD (.int _) (.int _) = _) | exact (rfl : gtD (.int _) (.int _) = _) | exact (rfl : geD (.int _) (.int _) = _)), ?_⟩) | (refine ⟨_, _, _, rfl, rfl, rfl, ?_⟩) | (refine ⟨_, rfl, ⟨_, rfl⟩, ?_⟩) | (refine ⟨_, rfl, rfl, ?_⟩) | (refine ⟨_, rfl, (by assumption : Fr.isObj _ = false), ?_⟩) | (refine ⟨_, _, rfl, (by assumption : (_ : Option Sl) = some _), ?_⟩) | (refine ⟨_, _, _, rfl, rfl, (by assumption : (_ : Option Sl) = some _), ?_⟩) | (refine ⟨_, _, rfl, rfl, ?_⟩) | (refine ⟨_, rfl, Nat.le_of_ble_eq_true rfl, ?_⟩) | (refine ⟨_, rfl, (by omega), (by omega), ?_⟩) | (refine ⟨_, _, rfl, (by omega), ?_⟩) | (refine ⟨_, rfl, ?_⟩) | (refine .inl ⟨_, .inl rfl, ?_⟩) | (refine .inl ⟨_, .inr rfl, ?_⟩) | (refine .inr ⟨_, rfl, ?_⟩))); try dsimp only [List.set_cons_zero, List.set_cons_succ])
  refine ⟨by rw [List.length_map]; omega, fun d hd => ?_, ?_⟩
  · obtain ⟨i, _, rfl⟩ := List.mem_map.mp hd
    refine ⟨_, rfl, ?_⟩
    dsimp only [wipeE, List.set_cons_zero, List.set_cons_succ]
    repeat ((first | (with_reducible refine w_varE ?_; refine ⟨_, rfl, ?_⟩) | (with_reducible refine w_varF ?_; refine ⟨⟨_, rfl⟩, ?_⟩) | (with_reducible refine w_seq ?_) | (with_reducible refine w_if ?_) | (with_reducible refine w_and ?_) | (with_reducible refine w_or ?_) | (with_reducible refine w_not ?_) | (with_reducible refine w_ite ?_) | (with_reducible refine w_expr ?_) | (with_reducible refine w_ret ?_) | (with_reducible refine w_setV ?_) | (with_reducible refine w_setO ?_) | (with_reducible refine w_m2 ?_) | (with_reducible refine w_m1 ?_) | (with_reducible refine w_mB ?_) | (with_reducible refine w_mCh ?_) | (with_reducible refine w_andV ?_) | (with_reducible refine w_orV ?_) | (with_reducible refine w_notV ?_) | (with_reducible refine w_c ?_) | (with_reducible refine w_acons ?_) | (with_reducible refine w_anil ?_) | (with_reducible refine w_n ?_) | (with_reducible refine w_lst ?_) | (with_reducible refine w_tup ?_) | (with_reducible refine w_next ?_) | (with_reducible refine w_brk ?_) | (with_reducible refine w_cont ?_) | (with_reducible refine w_iR1 ?_) | (with_reducible refine w_iR2 ?_) | (with_reducible refine w_iQ ?_) | (with_reducible refine w_par2 ?_) | (with_reducible refine w_fzF ?_) | (with_reducible refine w_fzT ?_) | (with_reducible refine w_sub ?_) | (with_reducible refine w_yes ?_) | (with_reducible refine w_m ?_) | (with_reducible refine w_isi ?_) | (with_reducible refine w_sl ?_) | (with_reducible refine w_pNo ?_) | (with_reducible refine w_pI ?_) | (with_reducible refine w_disp ?_) | (with_reducible refine w_dnil ?_) | (with_reducible refine w_dcons ?_) | (with_reducible refine w_sTup ?_) | (with_reducible refine w_subAdd ⟨_, rfl⟩ ?_) | ((fail_if_success (with_reducible refine W.idt ?_)); first | (refine ⟨_, _, _, rfl, rfl, (by first | exact eqD_int _ _ | exact neD_int _ _ | exact addD_int _ _ | exact subD_int _ _ | exact eqD_str _ _ | exact neD_str _ _ | (rw [ixD_list]; rfl) | (rw [ixD_tuple]; rfl) | exact powD_int _ _ (by decide) | exact modD_int _ _ (by omega) | exact mulA_int _ _ (cmul_small (by constructor <;> omega) (by constructor <;> omega)) | exact divD_int _ _ (cdiv_small (by constructor <;> omega)) | exact (rfl : ltD (.int _) (.int _) = _) | exact (rfl : leD (.int _) (.int _) = _) | exact (rfl : gtD (.int _) (.int _) = _) | exact (rfl : geD (.int _) (.int _) = _)), ?_⟩) | (refine ⟨_, _, _, rfl, rfl, rfl, ?_⟩) | (refine ⟨_, rfl, ⟨_, rfl⟩, ?_⟩) | (refine ⟨_, rfl, rfl, ?_⟩) | (refine ⟨_, rfl, (by assumption : Fr.isObj _ = false), ?_⟩) | (refine ⟨_, _, rfl, (by assumption : (_ : Option Sl) = some _), ?_⟩) | (refine ⟨_, _, _, rfl, rfl, (by assumption : (_ : Option Sl) = some _), ?_⟩) | (refine ⟨_, _, rfl, rfl, ?_⟩) | (refine ⟨_, rfl, Nat.le_of_ble_eq_true rfl, ?_⟩) | (refine ⟨_, rfl, (by omega), (by omega), ?_⟩) | (refine ⟨_, _, rfl, (by omega), ?_⟩) | (refine ⟨_, rfl, ?_⟩) | (refine .inl ⟨_, .inl rfl, ?_⟩) | (refine .inl ⟨_, .inr rfl, ?_⟩) | (refine .inr ⟨_, rfl, ?_⟩))); try dsimp only [List.set_cons_zero, List.set_cons_succ])
    refine ⟨rfl, fun _ => ?_, fun z => by cases z⟩
    repeat ((first | (with_reducible refine w_varE ?_; refine ⟨_, rfl, ?_⟩) | (with_reducible refine w_varF ?_; refine ⟨⟨_, rfl⟩, ?_⟩) | (with_reducible refine w_seq ?_) | (with_reducible refine w_if ?_) | (with_reducible refine w_and ?_) | (with_reducible refine w_or ?_) | (with_reducible refine w_not ?_) | (with_reducible refine w_ite ?_) | (with_reducible refine w_expr ?_) | (with_reducible refine w_ret ?_) | (with_reducible refine w_setV ?_) | (with_reducible refine w_setO ?_) | (with_reducible refine w_m2 ?_) | (with_reducible refine w_m1 ?_) | (with_reducible refine w_mB ?_) | (with_reducible refine w_mCh ?_) | (with_reducible refine w_andV ?_) | (with_reducible refine w_orV ?_) | (with_reducible refine w_notV ?_) | (with_reducible refine w_c ?_) | (with_reducible refine w_acons ?_) | (with_reducible refine w_anil ?_) | (with_reducible refine w_n ?_) | (with_reducible refine w_lst ?_) | (with_reducible refine w_tup ?_) | (with_reducible refine w_next ?_) | (with_reducible refine w_brk ?_) | (with_reducible refine w_cont ?_) | (with_reducible refine w_iR1 ?_) | (with_reducible refine w_iR2 ?_) | (with_reducible refine w_iQ ?_) | (with_reducible refine w_par2 ?_) | (with_reducible refine w_fzF ?_) | (with_reducible refine w_fzT ?_) | (with_reducible refine w_sub ?_) | (with_reducible refine w_yes ?_) | (with_reducible refine w_m ?_) | (with_reducible refine w_isi ?_) | (with_reducible refine w_sl ?_) | (with_reducible refine w_pNo ?_) | (with_reducible refine w_pI ?_) | (with_reducible refine w_disp ?_) | (with_reducible refine w_dnil ?_) | (with_reducible refine w_dcons ?_) | (with_reducible refine w_sTup ?_) | (with_reducible refine w_subAdd ⟨_, rfl⟩ ?_) | ((fail_if_success (with_reducible refine W.idt ?_)); first | (refine ⟨_, _, _, rfl, rfl, (by first | exact eqD_int _ _ | exact neD_int _ _ | exact addD_int _ _ | exact subD_int _ _ | exact eqD_str _ _ | exact neD_str _ _ | (rw [ixD_list]; rfl) | (rw [ixD_tuple]; rfl) | exact powD_int _ _ (by decide) | exact modD_int _ _ (by omega) | exact mulA_int _ _ (cmul_small (by constructor <;> omega) (by constructor <;> omega)) | exact divD_int _ _ (cdiv_small (by constructor <;> omega)) | exact (rfl : ltD (.int _) (.int _) = _) | exact (rfl : leD (.int _) (.int _) = _) | exact (rfl : gtD (.int _) (.int _) = _) | exact (rfl : geD (.int _) (.int _) = _)), ?_⟩) | (refine ⟨_, _, _, rfl, rfl, rfl, ?_⟩) | (refine ⟨_, rfl, ⟨_, rfl⟩, ?_⟩) | (refine ⟨_, rfl, rfl, ?_⟩) | (refine ⟨_, rfl, (by assumption : Fr.isObj _ = false), ?_⟩) | (refine ⟨_, _, rfl, (by assumption : (_ : Option Sl) = some _), ?_⟩) | (refine ⟨_, _, _, rfl, rfl, (by assumption : (_ : Option Sl) = some _), ?_⟩) | (refine ⟨_, _, rfl, rfl, ?_⟩) | (refine ⟨_, rfl, Nat.le_of_ble_eq_true rfl, ?_⟩) | (refine ⟨_, rfl, (by omega), (by omega), ?_⟩) | (refine ⟨_, _, rfl, (by omega), ?_⟩) | (refine ⟨_, rfl, ?_⟩) | (refine .inl ⟨_, .inl rfl, ?_⟩) | (refine .inl ⟨_, .inr rfl, ?_⟩) | (refine .inr ⟨_, rfl, ?_⟩))); try dsimp only [List.set_cons_zero, List.set_cons_succ])
    exact ⟨rfl, rfl⟩
  · rw [List.filter_eq_self.mpr fun _ _ => rfl, e]
    repeat ((first | (with_reducible refine w_varE ?_; refine ⟨_, rfl, ?_⟩) | (with_reducible refine w_varF ?_; refine ⟨⟨_, rfl⟩, ?_⟩) | (with_reducible refine w_seq ?_) | (with_reducible refine w_if ?_) | (with_reducible refine w_and ?_) | (with_reducible refine w_or ?_) | (with_reducible refine w_not ?_) | (with_reducible refine w_ite ?_) | (with_reducible refine w_expr ?_) | (with_reducible refine w_ret ?_) | (with_reducible refine w_setV ?_) | (with_reducible refine w_setO ?_) | (with_reducible refine w_m2 ?_) | (with_reducible refine w_m1 ?_) | (with_reducible refine w_mB ?_) | (with_reducible refine w_mCh ?_) | (with_reducible refine w_andV ?_) | (with_reducible refine w_orV ?_) | (with_reducible refine w_notV ?_) | (with_reducible refine w_c ?_) | (with_reducible refine w_acons ?_) | (with_reducible refine w_anil ?_) | (with_reducible refine w_n ?_) | (with_reducible refine w_lst ?_) | (with_reducible refine w_tup ?_) | (with_reducible refine w_next ?_) | (with_reducible refine w_brk ?_) | (with_reducible refine w_cont ?_) | (with_reducible refine w_iR1 ?_) | (with_reducible refine w_iR2 ?_) | (with_reducible refine w_iQ ?_) | (with_reducible refine w_par2 ?_) | (with_reducible refine w_fzF ?_) | (with_reducible refine w_fzT ?_) | (with_reducible refine w_sub ?_) | (with_reducible refine w_yes ?_) | (with_reducible refine w_m ?_) | (with_reducible refine w_isi ?_) | (with_reducible refine w_sl ?_) | (with_reducible refine w_pNo ?_) | (with_reducible refine w_pI ?_) | (with_reducible refine w_disp ?_) | (with_reducible refine w_dnil ?_) | (with_reducible refine w_dcons ?_) | (with_reducible refine w_sTup ?_) | (with_reducible refine w_subAdd ⟨_, rfl⟩ ?_) | ((fail_if_success (with_reducible refine W.idt ?_)); first | (refine ⟨_, _, _, rfl, rfl, (by first | exact eqD_int _ _ | exact neD_int _ _ | exact addD_int _ _ | exact subD_int _ _ | exact eqD_str _ _ | exact neD_str _ _ | (rw [ixD_list]; rfl) | (rw [ixD_tuple]; rfl) | exact powD_int _ _ (by decide) | exact modD_int _ _ (by omega) | exact mulA_int _ _ (cmul_small (by constructor <;> omega) (by constructor <;> omega)) | exact divD_int _ _ (cdiv_small (by constructor <;> omega)) | exact (rfl : ltD (.int _) (.int _) = _) | exact (rfl : leD (.int _) (.int _) = _) | exact (rfl : gtD (.int _) (.int _) = _) | exact (rfl : geD (.int _) (.int _) = _)), ?_⟩) | (refine ⟨_, _, _, rfl, rfl, rfl, ?_⟩) | (refine ⟨_, rfl, ⟨_, rfl⟩, ?_⟩) | (refine ⟨_, rfl, rfl, ?_⟩) | (refine ⟨_, rfl, (by assumption : Fr.isObj _ = false), ?_⟩) | (refine ⟨_, _, rfl, (by assumption : (_ : Option Sl) = some _), ?_⟩) | (refine ⟨_, _, _, rfl, rfl, (by assumption : (_ : Option Sl) = some _), ?_⟩) | (refine ⟨_, _, rfl, rfl, ?_⟩) | (refine ⟨_, rfl, Nat.le_of_ble_eq_true rfl, ?_⟩) | (refine ⟨_, rfl, (by omega), (by omega), ?_⟩) | (refine ⟨_, _, rfl, (by omega), ?_⟩) | (refine ⟨_, rfl, ?_⟩) | (refine .inl ⟨_, .inl rfl, ?_⟩) | (refine .inl ⟨_, .inr rfl, ?_⟩) | (refine .inr ⟨_, rfl, ?_⟩))); try dsimp only [List.set_cons_zero, List.set_cons_succ])
    exact q _ ⟨0, 1234567891, 0, cs, rfl, by omega, by omega, by omega, by omega, by omega, hc⟩
end K12
namespace K12
open PySem L2 Fr
theorem notB_ff : notB (.bool false) (.bool false) = some (.val (.bool false)) := rfl
theorem plain : Plain m_law 63 := by
  intro ns hl
  refine (fun (h : W (m_law [some (.val (scrD ns))]) fun x => x.1 = .val (.bool true)) => by
    obtain ⟨⟨r, ρ⟩, e, h⟩ := h.ex
    exact ⟨ρ, by rw [e]; exact congrArg (fun r => Out.ok (r, ρ)) h⟩) ?_
  unfold m_law b_law
  refine w_run rfl ?_
  dsimp only [List.replicate, List.append_nil, List.cons_append, List.nil_append, Nat.reduceSub]
  refine w_seq (w_setO (w_fnV (w_acons (w_var rfl (w_anil ⟨[scrD ns], rfl, bag_ok ns hl fun d b0 => ⟨rfl, _, rfl, rfl, ?_⟩⟩)))))
  dsimp only [List.set_cons_zero, List.set_cons_succ]
  refine w_seq ?_
  refine w_for (fun _ j ρ => ∃ d x2 x3 x4 x5 x6, ρ = [some (.val (scrD ns)), some (.own d), x2, x3, x4, x5, x6, none, none] ∧ Bg (31 * j) d) ?_
  repeat ((first | (with_reducible refine w_varE ?_; refine ⟨_, rfl, ?_⟩) | (with_reducible refine w_varF ?_; refine ⟨⟨_, rfl⟩, ?_⟩) | (with_reducible refine w_seq ?_) | (with_reducible refine w_if ?_) | (with_reducible refine w_and ?_) | (with_reducible refine w_or ?_) | (with_reducible refine w_not ?_) | (with_reducible refine w_ite ?_) | (with_reducible refine w_expr ?_) | (with_reducible refine w_ret ?_) | (with_reducible refine w_setV ?_) | (with_reducible refine w_setO ?_) | (with_reducible refine w_m2 ?_) | (with_reducible refine w_m1 ?_) | (with_reducible refine w_mB ?_) | (with_reducible refine w_mCh ?_) | (with_reducible refine w_andV ?_) | (with_reducible refine w_orV ?_) | (with_reducible refine w_notV ?_) | (with_reducible refine w_c ?_) | (with_reducible refine w_acons ?_) | (with_reducible refine w_anil ?_) | (with_reducible refine w_n ?_) | (with_reducible refine w_lst ?_) | (with_reducible refine w_tup ?_) | (with_reducible refine w_next ?_) | (with_reducible refine w_brk ?_) | (with_reducible refine w_cont ?_) | (with_reducible refine w_iR1 ?_) | (with_reducible refine w_iR2 ?_) | (with_reducible refine w_iQ ?_) | (with_reducible refine w_par2 ?_) | (with_reducible refine w_fzF ?_) | (with_reducible refine w_fzT ?_) | (with_reducible refine w_sub ?_) | (with_reducible refine w_yes ?_) | (with_reducible refine w_m ?_) | (with_reducible refine w_isi ?_) | (with_reducible refine w_sl ?_) | (with_reducible refine w_pNo ?_) | (with_reducible refine w_pI ?_) | (with_reducible refine w_disp ?_) | (with_reducible refine w_dnil ?_) | (with_reducible refine w_dcons ?_) | (with_reducible refine w_sTup ?_) | (with_reducible refine w_subAdd ⟨_, rfl⟩ ?_) | ((fail_if_success (with_reducible refine W.idt ?_)); first | (refine ⟨_, _, _, rfl, rfl, (by first | exact eqD_int _ _ | exact neD_int _ _ | exact addD_int _ _ | exact subD_int _ _ | exact eqD_str _ _ | exact neD_str _ _ | (rw [ixD_list]; rfl) | (rw [ixD_tuple]; rfl) | exact powD_int _ _ (by decide) | exact modD_int _ _ (by omega) | exact mulA_int _ _ (cmul_small (by constructor <;> omega) (by constructor <;> omega)) | exact divD_int _ _ (cdiv_small (by constructor <;> omega)) | exact (rfl : ltD (.int _) (.int _) = _) | exact (rfl : leD (.int _) (.int _) = _) | exact (rfl : gtD (.int _) (.int _) = _) | exact (rfl : geD (.int _) (.int _) = _)), ?_⟩) | (refine ⟨_, _, _, rfl, rfl, rfl, ?_⟩) | (refine ⟨_, rfl, ⟨_, rfl⟩, ?_⟩) | (refine ⟨_, rfl, rfl, ?_⟩) | (refine ⟨_, rfl, (by assumption : Fr.isObj _ = false), ?_⟩) | (refine ⟨_, _, rfl, (by assumption : (_ : Option Sl) = some _), ?_⟩) | (refine ⟨_, _, _, rfl, rfl, (by assumption : (_ : Option Sl) = some _), ?_⟩) | (refine ⟨_, _, rfl, rfl, ?_⟩) | (refine ⟨_, rfl, Nat.le_of_ble_eq_true rfl, ?_⟩) | (refine ⟨_, rfl, (by omega), (by omega), ?_⟩) | (refine ⟨_, _, rfl, (by omega), ?_⟩) | (refine ⟨_, rfl, ?_⟩) | (refine .inl ⟨_, .inl rfl, ?_⟩) | (refine .inl ⟨_, .inr rfl, ?_⟩) | (refine .inr ⟨_, rfl, ?_⟩))); try dsimp only [List.set_cons_zero, List.set_cons_succ])
  refine ⟨⟨d, _, _, _, _, _, rfl, b0⟩, fun j e ρ hj hi => ?_, fun ρ hi => ?_⟩
  · obtain ⟨d, x2, x3, x4, x5, x6, rfl, b⟩ := hi
    have hj2 : j < 24 := by have := (List.getElem?_eq_some_iff.mp hj).1; dsimp only [rngD] at this; rw [List.length_map, List.length_range] at this; exact this
    refine ⟨_, rfl, ?_⟩
    dsimp only [List.set_cons_zero, List.set_cons_succ]
    refine w_seq (w_setV (w_fnO rfl (thing_ok b (by omega) fun t d2 ht b2 => ⟨rfl, d2, rfl, _, rfl, rfl, ?_⟩)))
    dsimp only [List.set_cons_zero, List.set_cons_succ]
    obtain ⟨er, ho, htx⟩ := ht.facts
    repeat ((first | (with_reducible refine w_varE ?_; refine ⟨_, rfl, ?_⟩) | (with_reducible refine w_varF ?_; refine ⟨⟨_, rfl⟩, ?_⟩) | (with_reducible refine w_seq ?_) | (with_reducible refine w_if ?_) | (with_reducible refine w_and ?_) | (with_reducible refine w_or ?_) | (with_reducible refine w_not ?_) | (with_reducible refine w_ite ?_) | (with_reducible refine w_expr ?_) | (with_reducible refine w_ret ?_) | (with_reducible refine w_setV ?_) | (with_reducible refine w_setO ?_) | (with_reducible refine w_m2 ?_) | (with_reducible refine w_m1 ?_) | (with_reducible refine w_mB ?_) | (with_reducible refine w_mCh ?_) | (with_reducible refine w_andV ?_) | (with_reducible refine w_orV ?_) | (with_reducible refine w_notV ?_) | (with_reducible refine w_c ?_) | (with_reducible refine w_acons ?_) | (with_reducible refine w_anil ?_) | (with_reducible refine w_n ?_) | (with_reducible refine w_lst ?_) | (with_reducible refine w_tup ?_) | (with_reducible refine w_next ?_) | (with_reducible refine w_brk ?_) | (with_reducible refine w_cont ?_) | (with_reducible refine w_iR1 ?_) | (with_reducible refine w_iR2 ?_) | (with_reducible refine w_iQ ?_) | (with_reducible refine w_par2 ?_) | (with_reducible refine w_fzF ?_) | (with_reducible refine w_fzT ?_) | (with_reducible refine w_sub ?_) | (with_reducible refine w_yes ?_) | (with_reducible refine w_m ?_) | (with_reducible refine w_isi ?_) | (with_reducible refine w_sl ?_) | (with_reducible refine w_pNo ?_) | (with_reducible refine w_pI ?_) | (with_reducible refine w_disp ?_) | (with_reducible refine w_dnil ?_) | (with_reducible refine w_dcons ?_) | (with_reducible refine w_sTup ?_) | (with_reducible refine w_subAdd ⟨_, rfl⟩ ?_) | ((fail_if_success (with_reducible refine W.idt ?_)); first | (refine ⟨_, _, _, rfl, rfl, (by first | exact eqD_int _ _ | exact neD_int _ _ | exact addD_int _ _ | exact subD_int _ _ | exact eqD_str _ _ | exact neD_str _ _ | (rw [ixD_list]; rfl) | (rw [ixD_tuple]; rfl) | exact powD_int _ _ (by decide) | exact modD_int _ _ (by omega) | exact mulA_int _ _ (cmul_small (by constructor <;> omega) (by constructor <;> omega)) | exact divD_int _ _ (cdiv_small (by constructor <;> omega)) | exact (rfl : ltD (.int _) (.int _) = _) | exact (rfl : leD (.int _) (.int _) = _) | exact (rfl : gtD (.int _) (.int _) = _) | exact (rfl : geD (.int _) (.int _) = _)), ?_⟩) | (refine ⟨_, _, _, rfl, rfl, rfl, ?_⟩) | (refine ⟨_, rfl, ⟨_, rfl⟩, ?_⟩) | (refine ⟨_, rfl, rfl, ?_⟩) | (refine ⟨_, rfl, (by assumption : Fr.isObj _ = false), ?_⟩) | (refine ⟨_, _, rfl, (by assumption : (_ : Option Sl) = some _), ?_⟩) | (refine ⟨_, _, _, rfl, rfl, (by assumption : (_ : Option Sl) = some _), ?_⟩) | (refine ⟨_, _, rfl, rfl, ?_⟩) | (refine ⟨_, rfl, Nat.le_of_ble_eq_true rfl, ?_⟩) | (refine ⟨_, rfl, (by omega), (by omega), ?_⟩) | (refine ⟨_, _, rfl, (by omega), ?_⟩) | (refine ⟨_, rfl, ?_⟩) | (refine .inl ⟨_, .inl rfl, ?_⟩) | (refine .inl ⟨_, .inr rfl, ?_⟩) | (refine .inr ⟨_, rfl, ?_⟩))); try dsimp only [List.set_cons_zero, List.set_cons_succ])
    refine w_fnV (w_acons (w_var rfl (w_anil ⟨[t], rfl, whole_ok ho ⟨rfl, ?_⟩⟩)))
    refine w_acons (w_fnV (w_acons (w_var rfl (w_anil ⟨[t], rfl, lawname_ok ho (fun z hz => ⟨Nat.le_trans (htx z hz).1 (by decide), (htx z hz).2⟩) ⟨rfl, ?_⟩⟩))))
    refine w_anil ⟨_, rfl, Nat.le_of_ble_eq_true rfl, _, _, rfl, rfl, ?_⟩
    dsimp only [List.set_cons_zero, List.set_cons_succ]
    refine w_for (fun _ k ρ => ∃ x6, ρ = [some (.val (scrD ns)), some (.own d2), some (.val e), some (.val t), some (.val (.str (PyData.shown t))), some (.val (.list [.bool (wholeB t), .bool (nameB t)])), x6, none, none]) ?_
    refine w_iR1 (w_acons (w_c (w_anil ⟨2, rfl, by decide, by decide, ⟨_, rfl⟩, fun k e2 ρ hk hi => ?_, fun ρ hi => ?_⟩)))
    · obtain ⟨y6, rfl⟩ := hi
      refine ⟨_, rfl, ?_⟩
      dsimp only [List.set_cons_zero, List.set_cons_succ]
      refine w_if (w_or (w_not (w_mB (w_fnV (w_acons (w_lst (w_acons (w_fnV (w_acons (w_var rfl (w_anil ⟨[t], rfl, integer_ok ho ⟨rfl, ?_⟩⟩)))))))))))
      refine w_acons (w_fnV (w_acons (w_var rfl (w_anil ⟨[t], rfl, name_ok ho (fun z hz => Nat.le_trans (htx z hz).1 (by decide)) ⟨rfl, ?_⟩⟩))))
      refine w_anil ⟨_, rfl, Nat.le_of_ble_eq_true rfl, w_acons (w_var rfl (w_anil ⟨[_, _], rfl, alike_ok _ _ ⟨rfl, _, rfl, fun z => (by cases z), fun _ => ?_⟩⟩))⟩
      refine w_mB (w_m2 (w_n (w_acons (w_var rfl (w_anil ⟨_, _, rfl, er, w_var rfl ⟨_, _, _, rfl, rfl, neD_str _ _, _, rfl, fun z => ?_, fun _ => w_next ⟨_, rfl⟩⟩⟩)))))
      simp at z
    · obtain ⟨y6, rfl⟩ := hi
      exact ⟨d2, _, _, _, _, _, rfl, b2.mono (by omega)⟩
  · obtain ⟨d, x2, x3, x4, x5, x6, rfl, b⟩ := hi
    refine w_seq ?_
    refine w_setV ?_
    refine w_c ?_
    refine ⟨PyData.str "a", rfl, rfl, ?_⟩
    dsimp only [List.set_cons_zero, List.set_cons_succ]
    refine w_seq (w_for (fun _ j ρ => ∃ dd x8, ρ = [some (.val (scrD ns)), some (.own d), x2, x3, x4, x5, x6, some (.val dd), x8] ∧ isObj dd = false ∧ (1 ≤ j → wholeB dd = false ∧ nameB dd = false) ∧ ∀ z, dd = .str z → z.length ≤ 1000000) ?_)
    refine w_iR1 (w_acons (w_c (w_anil ⟨20, rfl, by decide, by decide, ⟨_, _, rfl, rfl, (fun z => by omega), fun z h => by cases h; decide⟩, fun k e2 ρ hk hi => ?_, fun ρ hi => ?_⟩)))
    · obtain ⟨dd, y8, rfl, o1, _⟩ := hi
      obtain ⟨i, rfl⟩ : ∃ i : Int, e2 = .int i := by
        have hm := List.mem_of_getElem? hk
        dsimp only [rngD] at hm
        obtain ⟨i, _, rfl⟩ := List.mem_map.mp hm
        exact ⟨_, rfl⟩
      refine ⟨_, rfl, ?_⟩
      dsimp only [List.set_cons_zero, List.set_cons_succ]
      have e2 : modD (.int i) (.int 2) = some (.val (.int (i % 2))) := modD_int _ _ (by omega)
      refine w_setV (w_m2 (w_lst (w_acons (w_lst (w_acons (w_var rfl (w_anil ⟨_, rfl, Nat.le_of_ble_eq_true rfl, w_acons (w_tup (w_acons (w_var rfl (w_anil ⟨_, rfl, Nat.le_of_ble_eq_true rfl, w_anil ⟨_, rfl, Nat.le_of_ble_eq_true rfl, ?_⟩⟩))))⟩)))))))
      refine w_m2 (w_var rfl (w_c ⟨_, _, _, rfl, rfl, e2, ?_⟩))
      obtain ⟨x, ex, hx⟩ := atI_nat (xs := [PyData.list [dd], .tuple [dd]]) (i := i % 2) (by omega) (by show i % 2 < 2; omega)
      refine ⟨_, _, _, rfl, rfl, (by rw [ixD_list]; exact congrArg (Option.map Sl.val) ex), _, rfl, rfl, x, _, rfl, ?_⟩
      simp only [List.mem_cons, List.not_mem_nil, or_false] at hx
      rcases hx with rfl | rfl <;> exact ⟨rfl, (fun _ => ⟨rfl, rfl⟩), fun z h => by cases h⟩
    · obtain ⟨dd, y8, rfl, o1, o2, o4⟩ := hi
      obtain ⟨o2, o3⟩ := o2 (by dsimp only [rngD]; rw [List.length_map, List.length_range]; decide)
      have h3 : (⟨(List.replicate (Int.toNat 9000) ("a" : Str).cps).foldl (· ++ ·) #[]⟩ : Str).length = 9000 := by
        show (_ : Array Nat).size = _
        rw [len_reps]; decide
      dsimp only
      refine w_seq ?_
      refine w_for (fun _ _ ρ => ∃ x3, ρ = [some (.val (scrD ns)), some (.own d), x2, x3, x4, x5, x6, some (.val dd), y8]) ?_
      repeat ((first | (with_reducible refine w_varE ?_; refine ⟨_, rfl, ?_⟩) | (with_reducible refine w_varF ?_; refine ⟨⟨_, rfl⟩, ?_⟩) | (with_reducible refine w_seq ?_) | (with_reducible refine w_if ?_) | (with_reducible refine w_and ?_) | (with_reducible refine w_or ?_) | (with_reducible refine w_not ?_) | (with_reducible refine w_ite ?_) | (with_reducible refine w_expr ?_) | (with_reducible refine w_ret ?_) | (with_reducible refine w_setV ?_) | (with_reducible refine w_setO ?_) | (with_reducible refine w_m2 ?_) | (with_reducible refine w_m1 ?_) | (with_reducible refine w_mB ?_) | (with_reducible refine w_mCh ?_) | (with_reducible refine w_andV ?_) | (with_reducible refine w_orV ?_) | (with_reducible refine w_notV ?_) | (with_reducible refine w_c ?_) | (with_reducible refine w_acons ?_) | (with_reducible refine w_anil ?_) | (with_reducible refine w_n ?_) | (with_reducible refine w_lst ?_) | (with_reducible refine w_tup ?_) | (with_reducible refine w_next ?_) | (with_reducible refine w_brk ?_) | (with_reducible refine w_cont ?_) | (with_reducible refine w_iR1 ?_) | (with_reducible refine w_iR2 ?_) | (with_reducible refine w_iQ ?_) | (with_reducible refine w_par2 ?_) | (with_reducible refine w_fzF ?_) | (with_reducible refine w_fzT ?_) | (with_reducible refine w_sub ?_) | (with_reducible refine w_yes ?_) | (with_reducible refine w_m ?_) | (with_reducible refine w_isi ?_) | (with_reducible refine w_sl ?_) | (with_reducible refine w_pNo ?_) | (with_reducible refine w_pI ?_) | (with_reducible refine w_disp ?_) | (with_reducible refine w_dnil ?_) | (with_reducible refine w_dcons ?_) | (with_reducible refine w_sTup ?_) | (with_reducible refine w_subAdd ⟨_, rfl⟩ ?_) | ((fail_if_success (with_reducible refine W.idt ?_)); first | (refine ⟨_, _, _, rfl, rfl, (by first | exact eqD_int _ _ | exact neD_int _ _ | exact addD_int _ _ | exact subD_int _ _ | exact eqD_str _ _ | exact neD_str _ _ | (rw [ixD_list]; rfl) | (rw [ixD_tuple]; rfl) | exact powD_int _ _ (by decide) | exact modD_int _ _ (by omega) | exact mulA_int _ _ (cmul_small (by constructor <;> omega) (by constructor <;> omega)) | exact divD_int _ _ (cdiv_small (by constructor <;> omega)) | exact (rfl : ltD (.int _) (.int _) = _) | exact (rfl : leD (.int _) (.int _) = _) | exact (rfl : gtD (.int _) (.int _) = _) | exact (rfl : geD (.int _) (.int _) = _)), ?_⟩) | (refine ⟨_, _, _, rfl, rfl, rfl, ?_⟩) | (refine ⟨_, rfl, ⟨_, rfl⟩, ?_⟩) | (refine ⟨_, rfl, rfl, ?_⟩) | (refine ⟨_, rfl, (by assumption : Fr.isObj _ = false), ?_⟩) | (refine ⟨_, _, rfl, (by assumption : (_ : Option Sl) = some _), ?_⟩) | (refine ⟨_, _, _, rfl, rfl, (by assumption : (_ : Option Sl) = some _), ?_⟩) | (refine ⟨_, _, rfl, rfl, ?_⟩) | (refine ⟨_, rfl, Nat.le_of_ble_eq_true rfl, ?_⟩) | (refine ⟨_, rfl, (by omega), (by omega), ?_⟩) | (refine ⟨_, _, rfl, (by omega), ?_⟩) | (refine ⟨_, rfl, ?_⟩) | (refine .inl ⟨_, .inl rfl, ?_⟩) | (refine .inl ⟨_, .inr rfl, ?_⟩) | (refine .inr ⟨_, rfl, ?_⟩))); try dsimp only [List.set_cons_zero, List.set_cons_succ])
      refine ⟨⟨_, rfl⟩, fun j e ρ hj hi => ?_, fun ρ hi => ?_⟩
      · obtain ⟨y3, rfl⟩ := hi
        have key : isObj e = false ∧ wholeB e = false ∧ nameB e = false ∧ ∀ z, e = .str z → z.length ≤ 1000000 := by
          have hm := List.mem_of_getElem? hj
          simp only [List.mem_cons, List.not_mem_nil, or_false] at hm
          rcases hm with rfl | rfl | rfl | rfl | rfl
          · exact ⟨rfl, rfl, rfl, fun z h => by cases h⟩
          · exact ⟨o1, o2, o3, o4⟩
          · exact ⟨rfl, rfl, rfl, fun z h => by cases h⟩
          · refine ⟨rfl, rfl, ?_, fun z h => ?_⟩
            · simp only [nameB]
              rw [h3]; rfl
            · injection h with h; subst h; rw [h3]; decide
          · exact ⟨rfl, rfl, rfl, fun z h => by cases h⟩
        clear hj
        obtain ⟨k1, k2, k3, k4⟩ := key
        refine ⟨_, rfl, ?_⟩
        dsimp only [List.set_cons_zero, List.set_cons_succ]
        refine w_if (w_or (w_mB (w_m2 (w_fnV (w_acons (w_var rfl (w_anil ⟨[e], rfl, integer_ok k1 ⟨rfl, ?_⟩⟩)))))))
        rw [k2]
        refine w_c ⟨_, _, _, rfl, rfl, notB_ff, _, rfl, fun z => (by cases z), fun _ => ?_⟩
        refine w_mB (w_m2 (w_fnV (w_acons (w_var rfl (w_anil ⟨[e], rfl, name_ok k1 k4 ⟨rfl, ?_⟩⟩)))))
        rw [k3]
        refine w_c ⟨_, _, _, rfl, rfl, notB_ff, _, rfl, fun z => (by cases z), fun _ => ?_⟩
        exact w_next ⟨_, rfl⟩
      · obtain ⟨y3, rfl⟩ := hi
        repeat ((first | (with_reducible refine w_varE ?_; refine ⟨_, rfl, ?_⟩) | (with_reducible refine w_varF ?_; refine ⟨⟨_, rfl⟩, ?_⟩) | (with_reducible refine w_seq ?_) | (with_reducible refine w_if ?_) | (with_reducible refine w_and ?_) | (with_reducible refine w_or ?_) | (with_reducible refine w_not ?_) | (with_reducible refine w_ite ?_) | (with_reducible refine w_expr ?_) | (with_reducible refine w_ret ?_) | (with_reducible refine w_setV ?_) | (with_reducible refine w_setO ?_) | (with_reducible refine w_m2 ?_) | (with_reducible refine w_m1 ?_) | (with_reducible refine w_mB ?_) | (with_reducible refine w_mCh ?_) | (with_reducible refine w_andV ?_) | (with_reducible refine w_orV ?_) | (with_reducible refine w_notV ?_) | (with_reducible refine w_c ?_) | (with_reducible refine w_acons ?_) | (with_reducible refine w_anil ?_) | (with_reducible refine w_n ?_) | (with_reducible refine w_lst ?_) | (with_reducible refine w_tup ?_) | (with_reducible refine w_next ?_) | (with_reducible refine w_brk ?_) | (with_reducible refine w_cont ?_) | (with_reducible refine w_iR1 ?_) | (with_reducible refine w_iR2 ?_) | (with_reducible refine w_iQ ?_) | (with_reducible refine w_par2 ?_) | (with_reducible refine w_fzF ?_) | (with_reducible refine w_fzT ?_) | (with_reducible refine w_sub ?_) | (with_reducible refine w_yes ?_) | (with_reducible refine w_m ?_) | (with_reducible refine w_isi ?_) | (with_reducible refine w_sl ?_) | (with_reducible refine w_pNo ?_) | (with_reducible refine w_pI ?_) | (with_reducible refine w_disp ?_) | (with_reducible refine w_dnil ?_) | (with_reducible refine w_dcons ?_) | (with_reducible refine w_sTup ?_) | (with_reducible refine w_subAdd ⟨_, rfl⟩ ?_) | ((fail_if_success (with_reducible refine W.idt ?_)); first | (refine ⟨_, _, _, rfl, rfl, (by first | exact eqD_int _ _ | exact neD_int _ _ | exact addD_int _ _ | exact subD_int _ _ | exact eqD_str _ _ | exact neD_str _ _ | (rw [ixD_list]; rfl) | (rw [ixD_tuple]; rfl) | exact powD_int _ _ (by decide) | exact modD_int _ _ (by omega) | exact mulA_int _ _ (cmul_small (by constructor <;> omega) (by constructor <;> omega)) | exact divD_int _ _ (cdiv_small (by constructor <;> omega)) | exact (rfl : ltD (.int _) (.int _) = _) | exact (rfl : leD (.int _) (.int _) = _) | exact (rfl : gtD (.int _) (.int _) = _) | exact (rfl : geD (.int _) (.int _) = _)), ?_⟩) | (refine ⟨_, _, _, rfl, rfl, rfl, ?_⟩) | (refine ⟨_, rfl, ⟨_, rfl⟩, ?_⟩) | (refine ⟨_, rfl, rfl, ?_⟩) | (refine ⟨_, rfl, (by assumption : Fr.isObj _ = false), ?_⟩) | (refine ⟨_, _, rfl, (by assumption : (_ : Option Sl) = some _), ?_⟩) | (refine ⟨_, _, _, rfl, rfl, (by assumption : (_ : Option Sl) = some _), ?_⟩) | (refine ⟨_, _, rfl, rfl, ?_⟩) | (refine ⟨_, rfl, Nat.le_of_ble_eq_true rfl, ?_⟩) | (refine ⟨_, rfl, (by omega), (by omega), ?_⟩) | (refine ⟨_, _, rfl, (by omega), ?_⟩) | (refine ⟨_, rfl, ?_⟩) | (refine .inl ⟨_, .inl rfl, ?_⟩) | (refine .inl ⟨_, .inr rfl, ?_⟩) | (refine .inr ⟨_, rfl, ?_⟩))); try dsimp only [List.set_cons_zero, List.set_cons_succ])
end K12
namespace K12
open PySem L2 Fr

theorem walk {l : PySem.W.OpenLaw} {q : Program} {loose : List Str} {XP : (Str → Option Value) → Heap → Prop} {YP : World → Heap → Prop} {d : DefRec} {K : Params → PySem.W.Frag} (hn : l.most = some 63) (hdf : d.params.defaults = [])
    (hY : ∀ (w : World) (h : Heap), YP w h → (K w.params).In h)
    (Fl : ∀ (w : World) (mg : Str → Option Value) (fa : Addr) (h : Heap), (K w.params).In h → h.Ns mainGlobals mg → mg d.name = some (.ref fa) →
      ∃ fd : FuncData, (∀ (s : Shared) (u : Value), BindsTo s fd ⟨[u], []⟩ [("_law_script", u)]) ∧ ∀ bs : Heap, (K w.params).In bs → bs.Ns mainGlobals mg → FnG l.prog w (K w.params) mg bs 4 fa fd ["_law_script"] (SpF ⟨K w.params, fun _ => 0⟩ m_law)) :
    PySem.W.WalkO q loose XP YP l.row.toRowW d [] (fun f vs => PySem.call f vs) :=
  Fr.walk_g (n := 63) (k := 4) (x := "_law_script") (sp := fun w => SpF ⟨K w.params, fun _ => 0⟩ m_law) hn (by decide) hdf ⟨rfl, by decide, by decide⟩ hY Fl fun w H a ns hl _ hS => sp_end plain hl hS

end K12

open PySem PySem.W PyProof.Rows in
set_option maxRecDepth 100000 in
set_option maxHeartbeats 0 in
theorem PySem.Challenge.cw_firingrules_k12_integers_and_names_holds : PySem.Challenge.rw_firingrules_k12_integers_and_names.Holds := by
  w_on; o_law; k_head; (case hw => w_witness2)
  k_fill
  refine K12.walk (l := PySem.Challenge.rw_firingrules_k12_integers_and_names) rfl rfl (fun w h Y => PySem.W.kIn_of Y) ?F
  case F =>
    intro w mg fa h KX G hmg
    refine' K12.all_mk KX G hmg ?g_LONGEST_NAME ?a0 ?l0 ?c0 ?k0 ?a1 ?l1 ?c1 ?k1 ?a2 ?l2 ?c2 ?k2 ?a3 ?l3 ?c3 ?k3 ?a4 ?l4 ?c4 ?k4 ?a5 ?l5 ?c5 ?k5 ?a6 ?l6 ?c6 ?k6 ?a7 ?l7 ?c7 ?k7 ?a8 ?l8 ?c8 ?k8 ?a9 ?l9 ?c9 ?k9 ?n_len ?n_range ?n_isinstance ?n_all ?n_any ?n_tuple ?n_list ?n_sorted ?n_set ?n_sum ?n_repr ?n_int ?n_abs ?n_max ?n_min ?n_enumerate ?n_zip ?n_str ?n_bool ?n_dict
    (case g_LONGEST_NAME => k_is)
    (case a0 => k_is)
    (case l0 => k_is)
    (case c0 => k_is)
    (case k0 => k_is)
    (case a1 => k_is)
    (case l1 => k_is)
    (case c1 => k_is)
    (case k1 => k_is)
    (case a2 => k_is)
    (case l2 => k_is)
    (case c2 => k_is)
    (case k2 => k_is)
    (case a3 => k_is)
    (case l3 => k_is)
    (case c3 => k_is)
    (case k3 => k_is)
    (case a4 => k_is)
    (case l4 => k_is)
    (case c4 => k_is)
    (case k4 => k_is)
    (case a5 => k_is)
    (case l5 => k_is)
    (case c5 => k_is)
    (case k5 => k_is)
    (case a6 => k_is)
    (case l6 => k_is)
    (case c6 => k_is)
    (case k6 => k_is)
    (case a7 => k_is)
    (case l7 => k_is)
    (case c7 => k_is)
    (case k7 => k_is)
    (case a8 => k_is)
    (case l8 => k_is)
    (case c8 => k_is)
    (case k8 => k_is)
    (case a9 => k_is)
    (case l9 => k_is)
    (case c9 => k_is)
    (case k9 => k_is)
    (case n_len => k_is)
    (case n_range => k_is)
    (case n_isinstance => k_is)
    (case n_all => k_is)
    (case n_any => k_is)
    (case n_tuple => k_is)
    (case n_list => k_is)
    (case n_sorted => k_is)
    (case n_set => k_is)
    (case n_sum => k_is)
    (case n_repr => k_is)
    (case n_int => k_is)
    (case n_abs => k_is)
    (case n_max => k_is)
    (case n_min => k_is)
    (case n_enumerate => k_is)
    (case n_zip => k_is)
    (case n_str => k_is)
    (case n_bool => k_is)
    (case n_dict => k_is)
