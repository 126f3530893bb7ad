import PyProof.Rows.All
import Wide.All
import OpenK.AllK
import Wide.FinOn
import HandS.ForMost
import HandS.ForExc
import KE.OsRunLaw
import HandS.IsInst
import HandS.StrMore
import HandS.StrSplit
import HandS.Deep
import HandS.TupAny
import HandS.TupLe
import HandS.TupMul
import HandS.TupLen
import HandS.Wide
import HandS.Property
import KE.GoesEnum
import HandS.Strs
import HandS.Style
import KE.SortData
import KE.KDictSum
import KE.KDictCopyH
import HandS.Zip
import KE.KDictPairs
import HandS.DictComp
import HandS.WordsDict
import HandS.Conv
import HandS.TupSets
import PyProof.InstNe
import KE.KDictZip
import HandS.ListItems
import PyProof.TupleOfSeq
import PyProof.ReprRoads
import PyProof.NeKinds
import HandS.SetFor
import PyProof.SumAny
import PyProof.ListOps
import HandS.Defaults
import HandS.MakeKwOnly
import HandS.SortKw
import KE.SortKeyHeap
import HandS.ExcInit
import HandS.TryOnly
import HandS.ExcField
import KE.KExcIs
import HandS.ExcIs
import KE.DataCmp
import PySem.Challenge.RW_firingrules_k16_rows_and_databases_in_or
set_option Elab.async false
set_option linter.all false
set_option autoImplicit false
set_option maxRecDepth 100000
set_option maxHeartbeats 2000000
namespace K16
open PySem PySem.W PyProof.Rows HeadRun
noncomputable section
abbrev hP : Program := PySem.Challenge.rw_firingrules_k16_rows_and_databases_in_or.row.prog
abbrev hRun (w : World) (os : OsState) := endF (stepQ (denQ tabQ) PySem.Challenge.rw_firingrules_k16_rows_and_databases_in_or.row.prog w) 5920 PySem.Challenge.rw_firingrules_k16_rows_and_databases_in_or.row.prog w os
def viewQ : Program := { hP with main := { hP.main with body := [0, 2, 3, 4, 5, 6, 8, 9, 10, 11, 12, 14, 15, 16, 17, 18, 19, 20, 21, 22, 23, 25, 26, 27, 28, 29, 30, 31, 32, 33, 34, 35].map fun i => hP.main.body.getD i (.Pass ⟨0, 0, 0, 0⟩) } }
abbrev hL : List Str := [Str.ofString "Schema"]
abbrev hS (s : SharedT) := seenQ viewQ hL (importedModules hP.main.body) (fun s => xlAt viewQ [] s && recOk PySem.Challenge.rw_firingrules_k16_rows_and_databases_in_or.row.toRowW.records s) s.abs
theorem lookB5 (w : World) (os : OsState) : Option.map (fun s => (hS s).2.2.2.2.2.1) (hRun w os) = some (plainGoodE viewQ (looseW viewQ hL)) := by kernel_rfl
theorem lookA (w : World) (os : OsState) : Option.map (fun s => (looksF PySem.Challenge.rw_firingrules_k16_rows_and_databases_in_or.row.prog (boot_heap w.params) s.abs, (hS s).2.1, (hS s).2.2.2.2.1, (hS s).2.2.2.2.2.2.1, (hS s).2.2.2.2.2.2.2.2)) (hRun w os) = some (true, bltViewBooted, pinGoodD (drecsOf viewQ), plainGoodD viewQ hL, clsGoodW viewQ hL) := by kernel_rfl
theorem lookB0 (w : World) (os : OsState) : Option.map (fun s => (hS s).1) (hRun w os) = some (expectedOf viewQ) := by kernel_rfl
theorem lookB2 (w : World) (os : OsState) : Option.map (fun s => (hS s).2.2.1) (hRun w os) = some (true) := by kernel_rfl
theorem lookB3 (w : World) (os : OsState) : Option.map (fun s => (hS s).2.2.2.1) (hRun w os) = some (true) := by kernel_rfl
theorem lookB7 (w : World) (os : OsState) : Option.map (fun s => (hS s).2.2.2.2.2.2.2.1) (hRun w os) = some (wideGood viewQ) := by kernel_rfl
theorem pr1 {α β γ : Type} {x : Option α} {f : α → β} {g : α → γ} {b : β} {c : γ} (h : x.map (fun s => (f s, g s)) = some (b, c)) : x.map f = some b := by
  cases x with
  | none => cases h
  | some s =>
    rw [Option.map_some] at h ⊢
    rw [(Prod.mk.inj (Option.some.inj h)).1]
theorem pr2 {α β γ : Type} {x : Option α} {f : α → β} {g : α → γ} {b : β} {c : γ} (h : x.map (fun s => (f s, g s)) = some (b, c)) : x.map g = some c := by
  cases x with
  | none => cases h
  | some s =>
    rw [Option.map_some] at h ⊢
    rw [(Prod.mk.inj (Option.some.inj h)).2]
theorem join2 {α β γ : Type} {x : Option α} {F : α → β × γ} {b : β} {c : γ} (h1 : x.map (fun s => (F s).1) = some b) (h2 : x.map (fun s => (F s).2) = some c) : x.map (fun s => F s) = some (b, c) := by
  cases x with
  | none => cases h1
  | some s =>
    rw [Option.map_some] at h1 h2 ⊢
    rw [← Option.some.inj h1, ← Option.some.inj h2]
theorem split3 {α β γ δ : Type} {x : Option α} {f : α → β} {g : α → γ} {h : α → δ} {b : β} {c : γ} {d : δ} (h1 : x.map f = some b) (h2 : x.map g = some c) (h3 : x.map h = some d) :
    x.map (fun s => (f s, g s, h s)) = some (b, c, d) := by
  cases x with
  | none => cases h1
  | some s =>
    rw [Option.map_some] at h1 h2 h3 ⊢
    rw [Option.some.inj h1, Option.some.inj h2, Option.some.inj h3]
theorem good_eq (q : Program) (l : List Str) : openGood q l = (expectedOf q, bltViewBooted, true, true, pinGoodD (drecsOf q), plainGoodE q (looseW q l), plainGoodD q l, wideGood q, clsGoodW q l) := rfl
theorem look1 (w : World) (os : OsState) : Option.map (fun s => looksF PySem.Challenge.rw_firingrules_k16_rows_and_databases_in_or.row.prog (boot_heap w.params) s.abs) (hRun w os) = some true := pr1 (lookA w os)
theorem look2 (q : Program) (hq : q = viewQ) (w : World) (os : OsState) : Option.map (fun s => seenQ q [Str.ofString "Schema"] (importedModules PySem.Challenge.rw_firingrules_k16_rows_and_databases_in_or.row.prog.main.body) (fun s => xlAt q [] s && recOk PySem.Challenge.rw_firingrules_k16_rows_and_databases_in_or.row.toRowW.records s) s.abs) (endF (stepQ (denQ tabQ) PySem.Challenge.rw_firingrules_k16_rows_and_databases_in_or.row.prog w) 5920 PySem.Challenge.rw_firingrules_k16_rows_and_databases_in_or.row.prog w os) = some (openGood q [Str.ofString "Schema"]) := by
  subst hq
  rw [good_eq]
  exact join2 (F := hS) (lookB0 w os) (join2 (F := fun s => (hS s).2) (pr1 (pr2 (lookA w os))) (join2 (F := fun s => (hS s).2.2) (lookB2 w os) (join2 (F := fun s => (hS s).2.2.2) (lookB3 w os) (join2 (F := fun s => (hS s).2.2.2.2) (pr1 (pr2 (pr2 (lookA w os)))) (join2 (F := fun s => (hS s).2.2.2.2.2) (lookB5 w os) (join2 (F := fun s => (hS s).2.2.2.2.2.2) (pr1 (pr2 (pr2 (pr2 (lookA w os))))) (join2 (F := fun s => (hS s).2.2.2.2.2.2.2) (lookB7 w os) (pr2 (pr2 (pr2 (pr2 (lookA w os))))))))))))
theorem row0 (h : PySem.Challenge.rw_firingrules_k16_rows_and_databases_in_or.row.wellSaid = true → PySem.Challenge.rw_firingrules_k16_rows_and_databases_in_or.row.Holds) : PySem.Challenge.rw_firingrules_k16_rows_and_databases_in_or.Holds := by
  w_on; o_law
  exact h (by assumption)
end
end K16
namespace Fr
open PySem L2
/-! ### data and their places -/
abbrev D := PyData
structure Gx where
  K : PySem.W.Frag
  cl : Str → Addr
def kD : Key → D
  | .inl i => .int i
  | .inr x => .str x
/-! tuples of texts are held with their whole object (their methods are called); pairs of texts only if they are names of columns or tables -/
def colN : List Str := ["k", "v", "w", "row", "new", "t"]
def isTx : D → Bool
  | .str _ => true
  | _ => false
def isCol : D → Bool
  | .str z => colN.contains z
  | _ => false
/-- a pair of a column and something: tuples of such are handed to dict(..) -/
def isPr : D → Bool
  | .tuple [.str z, _] => colN.contains z
  | _ => false
def same2 : List D → Bool
  | [.str a, .str b] => a == b
  | _ => false
def stD (ds : List D) : Bool := !ds.isEmpty && ((ds.all isTx && (ds.length != 2 || (ds.all isCol && !same2 ds))) || ds.all isPr)
def TupAt (F : Hp) (a : Addr) (ds : List D) (xs : List V) : Prop := (stD ds = false ∧ F a = some (.tup xs)) ∨ (stD ds = true ∧ ∃ o : Obj, o.dict = none ∧ F a = some (.frz o (.tup xs)))
theorem TupAt.mono {F F' : Hp} {a : Addr} {ds : List D} {xs : List V} (s : Same F F') (h : TupAt F a ds xs) : TupAt F' a ds xs := by
  rcases h with ⟨h1, h2⟩ | ⟨h1, o, h2, h3⟩
  · exact .inl ⟨h1, s _ _ h2⟩
  · exact .inr ⟨h1, o, h2, s _ _ h3⟩
theorem TupAt.sq {K : PySem.W.Frag} {F : Hp} {a : Addr} {ds : List D} {xs : List V} (h : TupAt F a ds xs) : SqT K F a xs := by
  rcases h with ⟨h1, h2⟩ | ⟨h1, o, h2, h3⟩
  · exact .inl (.inl h2)
  · exact .inl (.inr ⟨o, h3⟩)
mutual
inductive R (G : Gx) (F : Hp) : D → V → Prop
  | non : R G F .none .non
  | bl (b : Bool) : R G F (.bool b) (.bl b)
  | int (i : Int) : R G F (.int i) (.int i)
  | str (x : Str) : R G F (.str x) (.str x)
  | lst {a : Addr} {xs : List V} {ds : List D} : F a = some (.lst xs) → Rs G F ds xs → R G F (.list ds) (.ref a)
  | tup {a : Addr} {xs : List V} {ds : List D} : TupAt F a ds xs → Rs G F ds xs → R G F (.tuple ds) (.ref a)
  | dK {a : Addr} {kvs : List (Key × V)} {es : List (D × D)} : F a = some (.dK kvs) → RK G F es kvs → R G F (.dict es) (.ref a)
  | dT {a : Addr} {kvs : List (List Key × V)} {es : List (D × D)} : F a = some (.dT kvs) → RT G F es kvs → R G F (.dict ((.bool true, .none) :: es)) (.ref a)
  | obj {a dx : Addr} {c : Str} {fs : List (Str × V)} {es : List (D × D)} : F a = some (.ins (G.cl c) dx fs) → RF G F es fs → R G F (.dict ((.none, .str c) :: es)) (.ref a)
  | scr {a : Addr} {ns : List Int} : SqL G.K F a (ns.map V.int) → R G F (.dict [(.none, .list (ns.map PyData.int))]) (.ref a)
  | dL {a : Addr} {o : Obj} {kvs : List (Key × V)} {es : List (D × D)} : F a = some (.frz o (.dK kvs)) → RK G F es kvs → R G F (.dict ((.list [], .bool false) :: es)) (.ref a)
  | dU {a : Addr} {o : Obj} {kvs : List (List Key × V)} {es : List (D × D)} : F a = some (.frz o (.dT kvs)) → RT G F es kvs → R G F (.dict ((.list [], .bool true) :: es)) (.ref a)
inductive Rs (G : Gx) (F : Hp) : List D → List V → Prop
  | nil : Rs G F [] []
  | cons {d : D} {v : V} {ds : List D} {vs : List V} : R G F d v → Rs G F ds vs → Rs G F (d :: ds) (v :: vs)
inductive RK (G : Gx) (F : Hp) : List (D × D) → List (Key × V) → Prop
  | nil : RK G F [] []
  | cons {k : Key} {d : D} {v : V} {es : List (D × D)} {vs : List (Key × V)} : R G F d v → RK G F es vs → RK G F ((kD k, d) :: es) ((k, v) :: vs)
inductive RT (G : Gx) (F : Hp) : List (D × D) → List (List Key × V) → Prop
  | nil : RT G F [] []
  | cons {k : List Key} {d : D} {v : V} {es : List (D × D)} {vs : List (List Key × V)} : R G F d v → RT G F es vs → RT G F ((.tuple (k.map kD), d) :: es) ((k, v) :: vs)
inductive RF (G : Gx) (F : Hp) : List (D × D) → List (Str × V) → Prop
  | nil : RF G F [] []
  | cons {k : Str} {d : D} {v : V} {es : List (D × D)} {vs : List (Str × V)} : R G F d v → RF G F es vs → RF G F ((.str k, d) :: es) ((k, v) :: vs)
end
theorem sqT_same {K : PySem.W.Frag} {H H' : Hp} {a : Addr} {xs : List V} (e : Same H H') (h : SqT K H a xs) : SqT K H' a xs := by
  rcases h with (h | ⟨o, h⟩) | h
  · exact .inl (.inl (e _ _ h))
  · exact .inl (.inr ⟨o, e _ _ h⟩)
  · exact .inr h
theorem sqL_same {K : PySem.W.Frag} {H H' : Hp} {a : Addr} {xs : List V} (e : Same H H') (h : SqL K H a xs) : SqL K H' a xs := by
  rcases h with (h | ⟨o, h⟩) | h
  · exact .inl (.inl (e _ _ h))
  · exact .inl (.inr ⟨o, e _ _ h⟩)
  · exact .inr h
section
variable {G : Gx} {F F' : Hp}
mutual
theorem R.mono (s : Same F F') : ∀ {d : D} {v : V}, R G F d v → R G F' d v
  | _, _, .non => .non
  | _, _, .bl b => .bl b
  | _, _, .int i => .int i
  | _, _, .str x => .str x
  | _, _, .lst h r => .lst (s _ _ h) (Rs.mono s r)
  | _, _, .tup h r => .tup (h.mono s) (Rs.mono s r)
  | _, _, .dK h r => .dK (s _ _ h) (RK.mono s r)
  | _, _, .dT h r => .dT (s _ _ h) (RT.mono s r)
  | _, _, .obj h r => .obj (s _ _ h) (RF.mono s r)
  | _, _, .scr h => .scr (sqL_same s h)
  | _, _, .dL h r => .dL (s _ _ h) (RK.mono s r)
  | _, _, .dU h r => .dU (s _ _ h) (RT.mono s r)
theorem Rs.mono (s : Same F F') : ∀ {ds : List D} {vs : List V}, Rs G F ds vs → Rs G F' ds vs
  | _, _, .nil => .nil
  | _, _, .cons h r => .cons (R.mono s h) (Rs.mono s r)
theorem RK.mono (s : Same F F') : ∀ {ds : List (D × D)} {vs : List (Key × V)}, RK G F ds vs → RK G F' ds vs
  | _, _, .nil => .nil
  | _, _, .cons h r => .cons (R.mono s h) (RK.mono s r)
theorem RT.mono (s : Same F F') : ∀ {ds : List (D × D)} {vs : List (List Key × V)}, RT G F ds vs → RT G F' ds vs
  | _, _, .nil => .nil
  | _, _, .cons h r => .cons (R.mono s h) (RT.mono s r)
theorem RF.mono (s : Same F F') : ∀ {ds : List (D × D)} {vs : List (Str × V)}, RF G F ds vs → RF G F' ds vs
  | _, _, .nil => .nil
  | _, _, .cons h r => .cons (R.mono s h) (RF.mono s r)
end
theorem Rs.length : ∀ {ds : List D} {vs : List V}, Rs G F ds vs → vs.length = ds.length
  | _, _, .nil => rfl
  | _, _, .cons _ r => by simp [Rs.length r]
theorem Rs.append : ∀ {ds es : List D} {vs ws : List V}, Rs G F ds vs → Rs G F es ws → Rs G F (ds ++ es) (vs ++ ws)
  | _, _, _, _, .nil, r => r
  | _, _, _, _, .cons h t, r => .cons h (Rs.append t r)
theorem Rs.get : ∀ {ds : List D} {vs : List V} {i : Nat} {v : V}, Rs G F ds vs → vs[i]? = some v → ∃ d, ds[i]? = some d ∧ R G F d v
  | _, _, _, _, .nil, e => by simp at e
  | _, _, 0, _, .cons h _, e => by simp at e; subst e; exact ⟨_, rfl, h⟩
  | _, _, i + 1, v, .cons _ t, e => by
    obtain ⟨d, h1, h2⟩ := Rs.get (i := i) (v := v) t (by simpa using e)
    exact ⟨d, by simpa using h1, h2⟩
theorem Rs.getD : ∀ {ds : List D} {vs : List V} {i : Nat} {d : D}, Rs G F ds vs → ds[i]? = some d → ∃ v, vs[i]? = some v ∧ R G F d v
  | _, _, _, _, .nil, e => by simp at e
  | _, _, 0, _, .cons h _, e => by simp at e; subst e; exact ⟨_, rfl, h⟩
  | _, _, i + 1, v, .cons _ t, e => by
    obtain ⟨d, h1, h2⟩ := Rs.getD (i := i) (d := v) t (by simpa using e)
    exact ⟨d, by simpa using h1, h2⟩
theorem Rs.take : ∀ {ds : List D} {vs : List V} (n : Nat), Rs G F ds vs → Rs G F (ds.take n) (vs.take n)
  | _, _, 0, _ => by simp; exact .nil
  | _, _, _ + 1, .nil => by simp; exact .nil
  | _, _, n + 1, .cons h t => by simp; exact .cons h (Rs.take n t)
theorem Rs.drop : ∀ {ds : List D} {vs : List V} (n : Nat), Rs G F ds vs → Rs G F (ds.drop n) (vs.drop n)
  | _, _, 0, r => by simpa using r
  | _, _, _ + 1, .nil => by simp; exact .nil
  | _, _, n + 1, .cons _ t => by simp; exact Rs.drop n t
theorem Rs.set {d : D} {v : V} (h : R G F d v) : ∀ {ds : List D} {vs : List V} (i : Nat), Rs G F ds vs → Rs G F (ds.set i d) (vs.set i v)
  | _, _, _, .nil => .nil
  | _, _, 0, .cons _ t => .cons h t
  | _, _, i + 1, .cons q t => .cons q (Rs.set h i t)
theorem Rs.reverse {ds : List D} {vs : List V} (h : Rs G F ds vs) : Rs G F ds.reverse vs.reverse := by
  induction ds generalizing vs with
  | nil => cases h; exact .nil
  | cons d ds ih =>
    cases h with
    | cons q t =>
      rw [List.reverse_cons, List.reverse_cons]
      exact (ih t).append (.cons q .nil)
theorem Rs.eraseIdx : ∀ {ds : List D} {vs : List V} (i : Nat), Rs G F ds vs → Rs G F (ds.eraseIdx i) (vs.eraseIdx i)
  | _, _, _, .nil => .nil
  | _, _, 0, .cons _ t => t
  | _, _, i + 1, .cons q t => .cons q (Rs.eraseIdx i t)
end
/-! ### slots, results, outcomes -/
inductive Sl where
  | val (d : D)
  | own (d : D)
abbrev EV := List (Option Sl)
/-- what an expression gives: frozen data, a new object that nobody else knows, the thing owned by slot i -/
inductive Rv where
  | val (d : D)
  | own (d : D)
  | ref (i : Nat)
inductive Out (α : Type) where
  | ok (a : α)
  | ex (c : Str) (fs : List (D × D)) (ρ : EV)
  | bad
@[reducible] def Out.bind {α β : Type} (x : Out α) (f : α → Out β) : Out β :=
  match x with
  | .ok a => f a
  | .ex c d ρ => .ex c d ρ
  | .bad => .bad
def OwnR (G : Gx) (F H : Hp) : D → Addr → Prop
  | .list ds, a => ∃ xs, H a = some (.lst xs) ∧ Rs G F ds xs
  | .dict es, a => (∃ kvs, H a = some (.dK kvs) ∧ RK G F es kvs) ∨ (∃ kvs es', es = (.bool true, .none) :: es' ∧ H a = some (.dT kvs) ∧ RT G F es' kvs) ∨ ∃ c es' dx fs, es = (.none, .str c) :: es' ∧ H a = some (.ins (G.cl c) dx fs) ∧ RF G F es' fs
  | _, _ => False
/-- readable now -/
def Rd (G : Gx) (F H : Hp) : D → V → Prop
  | .list ds, v => ∃ a xs, v = .ref a ∧ H a = some (.lst xs) ∧ Rs G F ds xs
  | .tuple ds, v => ∃ a xs, v = .ref a ∧ TupAt F a ds xs ∧ Rs G F ds xs
  | .dict es, v => ∃ a, v = .ref a ∧ ((∃ kvs, H a = some (.dK kvs) ∧ RK G F es kvs) ∨ (∃ kvs es', es = (.bool true, .none) :: es' ∧ H a = some (.dT kvs) ∧ RT G F es' kvs) ∨
      (∃ c es' dx fs, es = (.none, .str c) :: es' ∧ H a = some (.ins (G.cl c) dx fs) ∧ RF G F es' fs) ∨ (∃ ns : List Int, es = [(.none, .list (ns.map PyData.int))] ∧ SqL G.K F a (ns.map V.int)) ∨
      (∃ o kvs es', es = (.list [], .bool false) :: es' ∧ H a = some (.frz o (.dK kvs)) ∧ RK G F es' kvs) ∨ ∃ o kvs es', es = (.list [], .bool true) :: es' ∧ H a = some (.frz o (.dT kvs)) ∧ RT G F es' kvs)
  | .none, v => v = .non
  | .bool b, v => v = .bl b
  | .int i, v => v = .int i
  | .str x, v => v = .str x
/-- slot i owns what stands at a -/
def Ow (ρ : EV) (σ : St) (i : Nat) (a : Addr) : Prop := (∃ d : D, ρ[i]? = some (some (Sl.own d))) ∧ σ[i]? = some (some (V.ref a))
structure EnvR (G : Gx) (F H : Hp) (ρ : EV) (σ : St) : Prop where
  same : Same F H
  len : ρ.length = σ.length
  val : ∀ (i : Nat) (d : D), ρ[i]? = some (some (Sl.val d)) → ∃ v, σ[i]? = some (some v) ∧ R G F d v
  own : ∀ (i : Nat) (d : D), ρ[i]? = some (some (Sl.own d)) → ∃ a, σ[i]? = some (some (V.ref a)) ∧ F a = none ∧ OwnR G F H d a
  ne : ∀ (i j : Nat) (a : Addr), Ow ρ σ i a → Ow ρ σ j a → i = j
/-- newly frozen: a fresh thing, or a tuple that stood there -/
def Nw (H : Hp) (a : Addr) (o : HO) : Prop := H a = none ∨ ∃ xs, o = .tup xs ∧ H a = some o
theorem Nw.ne {H : Hp} {a : Addr} {o o' : HO} (h : Nw H a o) (e : H a = some o') (n : ∀ xs, o' ≠ .tup xs) : False := by
  rcases h with h | ⟨xs, rfl, h⟩
  · rw [e] at h; cases h
  · rw [e] at h; injection h with h; exact n xs h
theorem OwnR.nt {G : Gx} {F H : Hp} {d : D} {a : Addr} (h : OwnR G F H d a) {o : HO} (e : H a = some o) : ∀ xs, o ≠ .tup xs := by
  rintro xs rfl
  cases d <;> simp only [OwnR] at h
  · obtain ⟨xs, k, r⟩ := h; rw [e] at k; cases k
  · rcases h with ⟨kvs, k, r⟩ | ⟨kvs, es', z, k, r⟩ | ⟨c, es', dx, fs, z, k, r⟩ <;> (rw [e] at k; cases k)
theorem Nw.own {G : Gx} {F H : Hp} {d : D} {a : Addr} {o : HO} (h : Nw H a o) (ow : OwnR G F H d a) : False := by
  rcases h with h | ⟨xs, rfl, h⟩
  · cases d <;> simp only [OwnR] at ow
    · obtain ⟨xs, k, r⟩ := ow; rw [h] at k; cases k
    · rcases ow with ⟨kvs, k, r⟩ | ⟨kvs, es', z, k, r⟩ | ⟨c, es', dx, fs, z, k, r⟩ <;> (rw [h] at k; cases k)
  · exact ow.nt h xs rfl
theorem Nw.back {H H' : Hp} {a : Addr} {o : HO} (s : Same H H') (h : Nw H' a o) : Nw H a o := by
  cases z : H a with
  | none => exact .inl z
  | some x =>
    have k := s a x z
    rcases h with h | ⟨xs, e, h⟩
    · rw [k] at h; cases h
    · exact .inr ⟨xs, e, z.trans (k.symm.trans h)⟩
structure Stp (G : Gx) (F H : Hp) (ρ : EV) (F' H' : Hp) (ρ' : EV) (σ : St) : Prop where
  fr : Same F F'
  env : EnvR G F' H' ρ' σ
  new : ∀ a o, F' a = some o → F a = some o ∨ Nw H a o
  keep : ∀ a o, H a = some o → (∀ i, ¬ Ow ρ σ i a) → H' a = some o
  mode : ∀ i : Nat, (∃ d d' : D, ρ[i]? = some (some (Sl.own d)) ∧ ρ'[i]? = some (some (Sl.own d'))) ∨ ((∀ d : D, ρ[i]? ≠ some (some (Sl.own d))) ∧ ρ'[i]? = ρ[i]?)
def ResR (G : Gx) (Hb F H : Hp) (ρ : EV) (σ : St) : Rv → V → Prop
  | .val d, v => R G F d v
  | .own d, v => ∃ a, v = .ref a ∧ F a = none ∧ Hb a = none ∧ OwnR G F H d a
  | .ref i, v => σ[i]? = some (some v) ∧ ∃ d : D, ρ[i]? = some (some (Sl.own d))
/-- an exception lies as told -/
def XR (G : Gx) (F H : Hp) (c : Str) (fs : List (D × D)) (cls : Value) (dd : Option Addr) : Prop :=
  cls = .ref (G.cl c) ∧ ((fs = [] ∧ dd = none) ∨ ∃ a vs, dd = some a ∧ H a = some (.xd vs) ∧ RF G F fs vs)
/-- an outcome under wishes -/
def PostG {α : Type} (okc : α → Prop) (exc : Str → List (D × D) → EV → Prop) : Out α → Prop
  | .ok a => okc a
  | .ex c fs ρ => exc c fs ρ
  | .bad => False
theorem post_bind {α β : Type} {okc : β → Prop} {exc : Str → List (D × D) → EV → Prop} (o : Out α) (k : α → Out β) : PostG okc exc (o.bind k) ↔ PostG (fun a => PostG okc exc (k a)) exc o := by
  cases o <;> exact Iff.rfl
theorem PostG.imp {α : Type} {okc okc' : α → Prop} {exc exc' : Str → List (D × D) → EV → Prop} {o : Out α} (h : PostG okc exc o) (h1 : ∀ a, okc a → okc' a) (h2 : ∀ c fs ρ, exc c fs ρ → exc' c fs ρ) : PostG okc' exc' o := by
  cases o with
  | ok a => exact h1 _ h
  | ex c fs ρ => exact h2 _ _ _ h
  | bad => exact h
def XC (G : Gx) (E : XK) (F H : Hp) (σ : St) (ρ : EV) : Str → List (D × D) → EV → Prop := fun c fs ρ' => ∀ F' H' cls dd, Stp G F H ρ F' H' ρ' σ → XR G F' H' c fs cls dd → E cls dd H'
def Okc (G : Gx) (F H : Hp) (σ : St) (ρ : EV) (Q : VK) : Rv × EV → Prop := fun x => ∀ F' H' v, Stp G F H ρ F' H' x.2 σ → ResR G H F' H' x.2 σ x.1 v → Q v H'
abbrev Post (G : Gx) (E : XK) (F H : Hp) (σ : St) (ρ : EV) (Q : VK) : Out (Rv × EV) → Prop := PostG (Okc G F H σ ρ Q) (XC G E F H σ ρ)
def Md (G : Gx) (E : XK) (t : TE) (m : EV → Out (Rv × EV)) : Prop :=
  ∀ F H ρ σ Q, EnvR G F H ρ σ → Post G E F H σ ρ Q (m ρ) → t σ H Q
section
variable {G : Gx} {E : XK} {F F' F'' H H' H'' : Hp} {ρ ρ' ρ'' : EV} {σ : St} {d : D} {v : V} {a : Addr} {t ta tb : TE} {m ma mb : EV → Out (Rv × EV)}
theorem OwnR.mono (s : Same F F') (h : OwnR G F H d a) : OwnR G F' H d a := by
  cases d <;> simp only [OwnR] at h ⊢
  · obtain ⟨xs, e, r⟩ := h; exact ⟨xs, e, r.mono s⟩
  · rcases h with ⟨kvs, e, r⟩ | ⟨kvs, es', z, e, r⟩ | ⟨c, es', dx, fs, z, e, r⟩
    · exact .inl ⟨kvs, e, r.mono s⟩
    · exact .inr (.inl ⟨kvs, es', z, e, r.mono s⟩)
    · exact .inr (.inr ⟨c, es', dx, fs, z, e, r.mono s⟩)
theorem OwnR.at (e : H' a = H a) (h : OwnR G F H d a) : OwnR G F H' d a := by
  cases d <;> simp only [OwnR] at h ⊢ <;> rw [e] <;> exact h
theorem OwnR.there (h : OwnR G F H d a) : ∃ o, H a = some o := by
  cases d <;> simp only [OwnR] at h
  · obtain ⟨xs, e, r⟩ := h; exact ⟨_, e⟩
  · rcases h with ⟨kvs, e, r⟩ | ⟨kvs, es', z, e, r⟩ | ⟨c, es', dx, fs, z, e, r⟩ <;> exact ⟨_, e⟩
theorem OwnR.rd (h : OwnR G F H d a) : Rd G F H d (.ref a) := by
  cases d <;> simp only [OwnR] at h <;> simp only [Rd]
  · obtain ⟨xs, e, r⟩ := h; exact ⟨a, xs, rfl, e, r⟩
  · rcases h with ⟨kvs, e, r⟩ | ⟨kvs, e, r⟩ | h
    · exact ⟨a, rfl, .inl ⟨kvs, e, r⟩⟩
    · exact ⟨a, rfl, .inr (.inl ⟨kvs, e, r⟩)⟩
    · exact ⟨a, rfl, .inr (.inr (.inl h))⟩
theorem R.rd (s : Same F H) (h : R G F d v) : Rd G F H d v := by
  cases h with
  | non => rfl
  | bl b => rfl
  | int i => rfl
  | str x => rfl
  | lst h r => exact ⟨_, _, rfl, s _ _ h, r⟩
  | tup h r => exact ⟨_, _, rfl, h, r⟩
  | dK h r => exact ⟨_, rfl, .inl ⟨_, s _ _ h, r⟩⟩
  | dT h r => exact ⟨_, rfl, .inr (.inl ⟨_, _, rfl, s _ _ h, r⟩)⟩
  | obj h r => exact ⟨_, rfl, .inr (.inr (.inl ⟨_, _, _, _, rfl, s _ _ h, r⟩))⟩
  | scr h => exact ⟨_, rfl, .inr (.inr (.inr (.inl ⟨_, rfl, h⟩)))⟩
  | dL h r => exact ⟨_, rfl, .inr (.inr (.inr (.inr (.inl ⟨_, _, _, rfl, s _ _ h, r⟩))))⟩
  | dU h r => exact ⟨_, rfl, .inr (.inr (.inr (.inr (.inr ⟨_, _, _, rfl, s _ _ h, r⟩))))⟩
theorem EnvR.there (e : EnvR G F H ρ σ) {i : Nat} (o : Ow ρ σ i a) : ∃ x, H a = some x := by
  obtain ⟨⟨d, h1⟩, h2⟩ := o
  obtain ⟨b, h3, _, h4⟩ := e.own i d h1
  rw [h2] at h3
  obtain rfl : a = b := by injection h3 with q; injection q with q; injection q
  exact h4.there
theorem EnvR.ownr (e : EnvR G F H ρ σ) {i : Nat} (o : Ow ρ σ i a) : ∃ d, OwnR G F H d a := by
  obtain ⟨⟨d, h1⟩, h2⟩ := o
  obtain ⟨b, h3, _, h4⟩ := e.own i d h1
  rw [h2] at h3
  obtain rfl : a = b := by injection h3 with q; injection q with q; injection q
  exact ⟨d, h4⟩
theorem EnvR.free (e : EnvR G F H ρ σ) {i : Nat} (o : Ow ρ σ i a) : F a = none := by
  obtain ⟨⟨d, h1⟩, h2⟩ := o
  obtain ⟨b, h3, h5, h4⟩ := e.own i d h1
  rw [h2] at h3
  obtain rfl : a = b := by injection h3 with q; injection q with q; injection q
  exact h5
theorem Stp.refl (e : EnvR G F H ρ σ) : Stp G F H ρ F H ρ σ where
  fr := .refl _
  env := e
  new := fun a o h => .inl h
  keep := fun a o h _ => h
  mode := fun i => by
    cases q : ρ[i]? with
    | none => exact .inr ⟨by simp, rfl⟩
    | some x =>
      cases x with
      | none => exact .inr ⟨by simp, rfl⟩
      | some x =>
        cases x with
        | val d => exact .inr ⟨by simp, rfl⟩
        | own d => exact .inl ⟨d, d, rfl, rfl⟩
theorem Stp.ow (s : Stp G F H ρ F' H' ρ' σ) (i : Nat) : Ow ρ' σ i a ↔ Ow ρ σ i a := by
  rcases s.mode i with ⟨d, d', h1, h2⟩ | ⟨h1, h2⟩
  · exact ⟨fun ⟨_, q⟩ => ⟨⟨d, h1⟩, q⟩, fun ⟨_, q⟩ => ⟨⟨d', h2⟩, q⟩⟩
  · exact ⟨fun ⟨⟨e, p⟩, q⟩ => (h1 e (h2 ▸ p)).elim, fun ⟨⟨e, p⟩, q⟩ => (h1 e p).elim⟩
theorem Stp.nw (s : Stp G F H ρ F' H' ρ' σ) {o : HO} (q : Nw H' a o) : Nw H a o := by
  cases z : H a with
  | none => exact .inl z
  | some x =>
    by_cases w : ∃ i, Ow ρ σ i a
    · obtain ⟨i, w⟩ := w
      obtain ⟨d, ow⟩ := s.env.ownr ((s.ow i).mpr w)
      exact (q.own ow).elim
    · have k := s.keep a x z (fun i q => w ⟨i, q⟩)
      rcases q with q | ⟨xs, e, q⟩
      · rw [k] at q; cases q
      · exact .inr ⟨xs, e, z.trans (k.symm.trans q)⟩
theorem Stp.trans (s : Stp G F H ρ F' H' ρ' σ) (u : Stp G F' H' ρ' F'' H'' ρ'' σ) : Stp G F H ρ F'' H'' ρ'' σ where
  fr := s.fr.trans u.fr
  env := u.env
  new := fun a o h => by
    rcases u.new a o h with q | q
    · exact s.new a o q
    · cases z : H a with
      | none => exact .inr (.inl z)
      | some x =>
        by_cases w : ∃ i, Ow ρ σ i a
        · obtain ⟨i, w⟩ := w
          obtain ⟨d, ow⟩ := s.env.ownr ((s.ow i).mpr w)
          exact (q.own ow).elim
        · have k := s.keep a x z (fun i q => w ⟨i, q⟩)
          rcases q with q | ⟨xs, e, q⟩
          · rw [k] at q; cases q
          · exact .inr (.inr ⟨xs, e, z.trans (k.symm.trans q)⟩)
  keep := fun a o h w => u.keep a o (s.keep a o h w) fun i q => w i ((s.ow i).mp q)
  mode := fun i => by
    rcases s.mode i with ⟨d, d', h1, h2⟩ | ⟨h1, h2⟩
    · rcases u.mode i with ⟨e, e', k1, k2⟩ | ⟨k1, k2⟩
      · exact .inl ⟨d, e', h1, k2⟩
      · exact (k1 d' h2).elim
    · rcases u.mode i with ⟨e, e', k1, k2⟩ | ⟨k1, k2⟩
      · rw [h2] at k1; exact (h1 e k1).elim
      · exact .inr ⟨h1, k2.trans h2⟩
/-- what is new and pure: nothing that was there has changed -/
structure Grow (F H F' H' : Hp) : Prop where
  fr : Same F F'
  sub : Same F' H'
  new : ∀ a o, F' a = some o → F a = some o ∨ Nw H a o
  keep : Same H H'
theorem Grow.refl (s : Same F H) : Grow F H F H := ⟨.refl _, s, fun _ _ h => .inl h, .refl _⟩
theorem Grow.trans (s : Grow F H F' H') (u : Grow F' H' F'' H'') : Grow F H F'' H'' :=
  ⟨s.fr.trans u.fr, u.sub, fun a o h => (u.new a o h).elim (s.new a o) fun q => .inr (q.back s.keep), s.keep.trans u.keep⟩
theorem EnvR.grow (e : EnvR G F H ρ σ) (g : Grow F H F' H') : EnvR G F' H' ρ σ where
  same := g.sub
  len := e.len
  val := fun i d h => let ⟨v, q, r⟩ := e.val i d h; ⟨v, q, r.mono g.fr⟩
  own := fun i d h => by
    obtain ⟨a, q, f, o⟩ := e.own i d h
    obtain ⟨x, hx⟩ := o.there
    refine ⟨a, q, ?_, (o.mono g.fr).at ?_⟩
    · cases z : F' a with
      | none => rfl
      | some y =>
        rcases g.new a y z with w | w
        · rw [f] at w; cases w
        · exact (w.own o).elim
    · rw [g.keep a x hx, hx]
  ne := e.ne
theorem Grow.stp (e : EnvR G F H ρ σ) (g : Grow F H F' H') : Stp G F H ρ F' H' ρ σ :=
  { Stp.refl e with fr := g.fr, env := e.grow g, new := g.new, keep := fun a o h _ => g.keep a o h }
/-- a thing that nobody owns is frozen -/
theorem EnvR.freeze (e : EnvR G F H ρ σ) {o : HO} (h : H a = some o) (f : F a = none) (w : ∀ i, ¬ Ow ρ σ i a) : EnvR G (upd F a o) H ρ σ where
  same := fun b x q => by
    by_cases z : b = a
    · subst z; rw [upd_same] at q; rw [h]; exact q
    · rw [upd_ne z] at q; exact e.same b x q
  len := e.len
  val := fun i d q => let ⟨v, k, r⟩ := e.val i d q; ⟨v, k, r.mono fun b x z => by rw [upd_ne (ne_of_none z f)]; exact z⟩
  own := fun i d q => by
    obtain ⟨b, k, z, r⟩ := e.own i d q
    have n : b ≠ a := fun y => w i ⟨⟨d, q⟩, y ▸ k⟩
    exact ⟨b, k, by rw [upd_ne n]; exact z, r.mono fun b x z => by rw [upd_ne (ne_of_none z f)]; exact z⟩
  ne := e.ne
theorem same_upd {o : HO} (f : F a = none) : Same F (upd F a o) := fun b x z => by rw [upd_ne (ne_of_none z f)]; exact z
theorem OwnR.frozen (h : OwnR G F H d a) (f : F a = none) : ∃ o, H a = some o ∧ R G (upd F a o) d (.ref a) := by
  have s {o : HO} : Same F (upd F a o) := same_upd f
  cases d <;> simp only [OwnR] at h
  · obtain ⟨xs, e, r⟩ := h; exact ⟨_, e, .lst upd_same (r.mono s)⟩
  · rcases h with ⟨kvs, e, r⟩ | ⟨kvs, es', rfl, e, r⟩ | ⟨c, es', dx, fs, rfl, e, r⟩
    · exact ⟨_, e, .dK upd_same (r.mono s)⟩
    · exact ⟨_, e, .dT upd_same (r.mono s)⟩
    · exact ⟨_, e, .obj upd_same (r.mono s)⟩
/-- own results frozen -/
def fz : Rv → Rv
  | .own d => .val d
  | r => r
def fzO : Out (Rv × EV) → Out (Rv × EV)
  | .ok (r, ρ) => .ok (fz r, ρ)
  | .ex c f ρ => .ex c f ρ
  | .bad => .bad
theorem Md.fz (h : Md G E t m) : Md G E t (fun ρ => fzO (m ρ)) := fun F H ρ σ Q e p => by
  refine h F H ρ σ Q e ?_
  revert p
  dsimp only
  cases m ρ with
  | bad => exact id
  | ex c f ρ' => exact id
  | ok x =>
    obtain ⟨r, ρ'⟩ := x
    cases r with
    | val d => exact id
    | ref i => exact id
    | own d =>
      intro p F' H' v s ⟨a, ev, f, n, o⟩
      obtain ⟨x, hx, r⟩ := o.frozen f
      subst ev
      refine p (upd F' a x) H' (.ref a) ⟨s.fr.trans (same_upd f), s.env.freeze hx f ?_, ?_, s.keep, s.mode⟩ r
      · intro i w
        obtain ⟨y, hy⟩ := e.there ((s.ow i).mp w)
        rw [n] at hy; cases hy
      · intro b y z
        by_cases q : b = a
        · subst q; exact .inr (.inl n)
        · rw [upd_ne q] at z; exact s.new b y z
/-- the data of an operand now -/
def rdv (ρ : EV) : Rv → Option D
  | .val d => some d
  | .own _ => none
  | .ref i => match ρ[i]? with
    | some (some (.own d)) => some d
    | _ => none
theorem ResR.rd {Hb : Hp} {r : Rv} (e : EnvR G F H ρ σ) (h : ResR G Hb F H ρ σ r v) (q : rdv ρ r = some d) : Rd G F H d v := by
  cases r with
  | val x => simp only [rdv] at q; injection q with q; subst q; exact R.rd e.same h
  | own x => simp only [rdv] at q; cases q
  | ref i =>
    obtain ⟨h1, y, h2⟩ := h
    simp only [rdv, h2] at q
    injection q with q
    subst q
    obtain ⟨a, k, f, o⟩ := e.own i y h2
    rw [h1] at k
    injection k with k; injection k with k
    subst k
    exact o.rd
/-- a result stays behind a further step -/
theorem ResR.step {Hb : Hp} {r : Rv} (s : Stp G F H ρ F' H' ρ' σ) (h : ResR G Hb F H ρ σ r v) (hr : ∀ d, r ≠ .own d) : ResR G Hb F' H' ρ' σ r v := by
  cases r with
  | val x => exact R.mono s.fr h
  | own x => exact (hr x rfl).elim
  | ref i =>
    obtain ⟨h1, y, h2⟩ := h
    rcases s.mode i with ⟨d, d', k1, k2⟩ | ⟨k1, k2⟩
    · exact ⟨h1, d', k2⟩
    · exact (k1 y h2).elim
theorem fz_own (r : Rv) (d : D) : Fr.fz r ≠ .own d := by cases r <;> simp [Fr.fz]
theorem ResR.hb {Hb Hc : Hp} {r : Rv} (h : ResR G Hb F H ρ σ r v) (hr : ∀ d, r ≠ .own d) : ResR G Hc F H ρ σ r v := by
  cases r with
  | val x => exact h
  | own x => exact (hr x rfl).elim
  | ref i => exact h
end
end Fr
namespace Fr
open PySem L2
theorem XC.step {G : Gx} {E : XK} {F H F' H' : Hp} {σ : St} {ρ ρ' : EV} {c : Str} {fs : List (D × D)} {ρ'' : EV} (s : Stp G F H ρ F' H' ρ' σ) (h : XC G E F H σ ρ c fs ρ'') : XC G E F' H' σ ρ' c fs ρ'' :=
  fun F2 H2 cls dd s2 x => h F2 H2 cls dd (s.trans s2) x
theorem Stp.none {G : Gx} {F H F' H' : Hp} {σ : St} {ρ ρ' : EV} {a : Addr} (e : EnvR G F H ρ σ) (s : Stp G F H ρ F' H' ρ' σ) (h : H' a = none) : H a = none := by
  cases z : H a with
  | none => rfl
  | some x =>
    by_cases w : ∃ i, Ow ρ σ i a
    · obtain ⟨i, w⟩ := w
      obtain ⟨y, hy⟩ := s.env.there ((s.ow i).mpr w)
      rw [hy] at h; cases h
    · rw [s.keep a x z (fun i q => w ⟨i, q⟩)] at h; cases h
theorem ResR.back {G : Gx} {F1 H1 F H Hb Hc : Hp} {σ : St} {ρ : EV} {r : Rv} {v : V} (n : ∀ a, Hc a = Option.none → Hb a = Option.none) (h : ResR G Hc F H ρ σ r v) : ResR G Hb F H ρ σ r v := by
  cases r with
  | val d => exact h
  | ref i => exact h
  | own d => obtain ⟨a, h1, h2, h3, h4⟩ := h; exact ⟨a, h1, h2, n _ h3, h4⟩
theorem Okc.step {G : Gx} {F H F' H' : Hp} {σ : St} {ρ ρ' : EV} {Q : VK} {x : Rv × EV} (s : Stp G F H ρ F' H' ρ' σ) (e : EnvR G F H ρ σ) (h : Okc G F H σ ρ Q x) : Okc G F' H' σ ρ' Q x :=
  fun F2 H2 v s2 r => h F2 H2 v (s.trans s2) (r.back (F1 := F) (H1 := H) fun a q => s.none e q)
/-- where one stands: room for kk calls, no repr under way, nothing handled, what is raised goes to E -/
structure Cw (X : Cx) (K : PySem.W.Frag) (E : XK) (kk : Nat) : Prop where
  kq : X.K = K
  room : Room kk X.A
  gd : X.A.guards = some []
  calm : X.calm = true
  pass : Passes (L2.CX X.prog X.w) X E
theorem Cw.blk {X : Cx} {K : PySem.W.Frag} {E : XK} {kk : Nat} (C : Cw X K E kk) {s : Shared} {H : Hp} {scope : Scope} {env : Env} {fp : List Addr} : Cw (X.blk s H scope env fp) K E0 kk := ⟨C.kq, C.room, C.gd, C.calm, passL⟩
/-! ### judgements -/
def SE (X : Cx) (K : PySem.W.Frag) (cl : Str → Addr) (E : XK) (e : Expr) (t : TE) (m : EV → Out (Rv × EV)) : Prop := PE X e t ∧ Md ⟨K, cl⟩ E t m
/-- a test -/
def OkcT (G : Gx) (F H : Hp) (σ : St) (ρ : EV) (Q : Bool → Hp → Prop) : Bool × EV → Prop := fun x => ∀ F' H', Stp G F H ρ F' H' x.2 σ → Q x.1 H'
def MdT (G : Gx) (E : XK) (t : TT) (m : EV → Out (Bool × EV)) : Prop :=
  ∀ F H ρ σ Q, EnvR G F H ρ σ → PostG (OkcT G F H σ ρ Q) (XC G E F H σ ρ) (m ρ) → t σ H Q
def SQ (X : Cx) (K : PySem.W.Frag) (cl : Str → Addr) (E : XK) (e : Expr) (t : TT) (m : EV → Out (Bool × EV)) : Prop := PT X e t ∧ MdT ⟨K, cl⟩ E t m
def SW (X : Cx) (K : PySem.W.Frag) (cl : Str → Addr) (E : XK) (e : Expr) (t : TT) (m : EV → Out (Bool × EV)) : Prop := PW X e t ∧ MdT ⟨K, cl⟩ E t m
/-- arguments -/
inductive ResRs (G : Gx) (F H : Hp) (ρ : EV) (σ : St) : List Rv → List V → Prop
  | nil : ResRs G F H ρ σ [] []
  | cons {r : Rv} {v : V} {rs : List Rv} {vs : List V} : (∀ d, r ≠ .own d) → ResR G H F H ρ σ r v → ResRs G F H ρ σ rs vs → ResRs G F H ρ σ (r :: rs) (v :: vs)
def OkcA (G : Gx) (F H : Hp) (σ : St) (ρ : EV) (Q : List V → Hp → Prop) : List Rv × EV → Prop := fun x => ∀ F' H' vs, Stp G F H ρ F' H' x.2 σ → ResRs G F' H' x.2 σ x.1 vs → Q vs H'
def MdA (G : Gx) (E : XK) (t : TA) (m : EV → Out (List Rv × EV)) : Prop :=
  ∀ F H ρ σ Q, EnvR G F H ρ σ → PostG (OkcA G F H σ ρ Q) (XC G E F H σ ρ) (m ρ) → t σ H Q
def SA (X : Cx) (K : PySem.W.Frag) (cl : Str → Addr) (E : XK) (es : List Expr) (t : TA) (m : EV → Out (List Rv × EV)) : Prop := PA X es t ∧ MdA ⟨K, cl⟩ E t m
/-! ### values -/
def SlV (G : Gx) (Hb F H : Hp) : Sl → V → Prop
  | .val d, v => R G F d v
  | .own d, v => ∃ a, v = .ref a ∧ F a = none ∧ Hb a = none ∧ OwnR G F H d a
def Sl.rv : Sl → Rv
  | .val d => .val d
  | .own d => .own d
theorem SlV.res {G : Gx} {Hb F H : Hp} {s : Sl} {v : V} {ρ : EV} {σ : St} (h : SlV G Hb F H s v) : ResR G Hb F H ρ σ s.rv v := by
  cases s <;> exact h
inductive Rds (G : Gx) (F H : Hp) : List D → List V → Prop
  | nil : Rds G F H [] []
  | cons {d : D} {v : V} {ds : List D} {vs : List V} : Rd G F H d v → Rds G F H ds vs → Rds G F H (d :: ds) (v :: vs)
def okS (G : Gx) (F H : Hp) (Q : VK) : Option Sl → Prop
  | some s => ∀ F' H' v, Grow F H F' H' → SlV G H F' H' s v → Q v H'
  | none => False
/-- an operation by values answers as f -/
def Op2 (G : Gx) (r : R2) (f : D → D → Option Sl) : Prop := ∀ F H d e x y Q, Same F H → Rd G F H d x → Rd G F H e y → okS G F H Q (f d e) → r x y H Q
def Op1 (G : Gx) (r : V → Hp → VK → Prop) (f : D → Option Sl) : Prop := ∀ F H d x Q, Same F H → Rd G F H d x → okS G F H Q (f d) → r x H Q
def OpN (G : Gx) (r : List V → Hp → VK → Prop) (f : List D → Option Sl) : Prop := ∀ F H ds xs Q, Same F H → Rds G F H ds xs → okS G F H Q (f ds) → r xs H Q
def giv (ρ : EV) : Option Sl → Out (Rv × EV)
  | some s => .ok (s.rv, ρ)
  | none => .bad
theorem post_giv {G : Gx} {E : XK} {F H : Hp} {σ : St} {ρ : EV} {Q : VK} {o : Option Sl} (e : EnvR G F H ρ σ) (h : Post G E F H σ ρ Q (giv ρ o)) : okS G F H Q o := by
  cases o with
  | none => exact h
  | some s => exact fun F' H' v g r => h F' H' v (g.stp e) r.res
def mVar (i : Nat) : EV → Out (Rv × EV) := fun ρ => match ρ[i]? with
  | some (some (.val d)) => .ok (.val d, ρ)
  | some (some (.own _)) => .ok (.ref i, ρ)
  | _ => .bad
def mC (d : D) : EV → Out (Rv × EV) := fun ρ => .ok (.val d, ρ)
def m2 (f : D → D → Option Sl) (a b : EV → Out (Rv × EV)) : EV → Out (Rv × EV) := fun ρ => (fzO (a ρ)).bind fun x => (fzO (b x.2)).bind fun y =>
  match rdv y.2 x.1, rdv y.2 y.1 with
  | some d, some e => giv y.2 (f d e)
  | _, _ => .bad
def m1 (f : D → Option Sl) (a : EV → Out (Rv × EV)) : EV → Out (Rv × EV) := fun ρ => (fzO (a ρ)).bind fun x =>
  match rdv x.2 x.1 with
  | some d => giv x.2 (f d)
  | _ => .bad
section
variable {G : Gx} {E : XK} {X : Cx} {K : PySem.W.Frag} {cl : Str → Addr} {ta tb tc : TE} {ma mb mc : EV → Out (Rv × EV)} {a b c : Expr} {pos : Pos}
theorem md_var (i : Nat) : Md G E (tVar i) (mVar i) := fun F H ρ σ Q e p => by
  unfold mVar at p
  revert p
  cases q : ρ[i]? with
  | none => exact False.elim
  | some x =>
    cases x with
    | none => exact False.elim
    | some x =>
      cases x with
      | val d => intro p; obtain ⟨v, h, r⟩ := e.val i d q; exact ⟨v, h, p F H v (.refl e) r⟩
      | own d => intro p; obtain ⟨a, h, f, o⟩ := e.own i d q; exact ⟨.ref a, h, p F H _ (.refl e) ⟨h, d, q⟩⟩
theorem md_c {v : V} {d : D} (r : ∀ F, R G F d v) : Md G E (tC v) (mC d) := fun F H ρ σ Q e p => p F H v (.refl e) (r F)
/-- the first part of a chain of parts: its frozen result -/
theorem Md.then (ha : Md G E ta ma) {F H : Hp} {ρ : EV} {σ : St} {Q : VK} {β : Type} {okc : β → Prop} {k : Rv × EV → Out β} (e : EnvR G F H ρ σ)
    (p : PostG okc (XC G E F H σ ρ) ((fzO (ma ρ)).bind k))
    (h : ∀ F1 H1 ρ1 r v, Stp G F H ρ F1 H1 ρ1 σ → (∀ d, r ≠ .own d) → ResR G H1 F1 H1 ρ1 σ r v → PostG okc (XC G E F1 H1 σ ρ1) (k (r, ρ1)) → Q v H1) : ta σ H Q := by
  refine ha.fz F H ρ σ Q e ?_
  rw [post_bind] at p
  have z : ∀ r ρ1, fzO (ma ρ) = .ok (r, ρ1) → ∀ d, r ≠ .own d := by
    intro r ρ1 q d
    cases y : ma ρ with
    | bad => rw [y] at q; cases q
    | ex c f ρ' => rw [y] at q; cases q
    | ok x => rw [y] at q; obtain ⟨r', ρ'⟩ := x; simp only [fzO] at q; injection q with q; injection q with q1 q2; rw [← q1]; exact fz_own _ _
  revert p z
  dsimp only
  cases fzO (ma ρ) with
  | bad => exact fun p _ => p
  | ex c f ρ' => exact fun p _ => p
  | ok x =>
    intro p z F1 H1 v s r
    exact h F1 H1 x.2 x.1 v s (z x.1 x.2 rfl) (r.hb (z x.1 x.2 rfl)) (PostG.imp (show PostG okc (XC G E F H σ ρ) (k x) from p) (fun _ q => q) fun c fs ρ q => q.step s)
theorem md_2 {r : R2} {f : D → D → Option Sl} (ho : Op2 G r f) (ha : Md G E ta ma) (hb : Md G E tb mb) : Md G E (tOp r ta tb) (m2 f ma mb) := fun F H ρ σ Q e p => by
  unfold m2 at p
  refine ha.then e p fun F1 H1 ρ1 x v s hx rx p1 => ?_
  refine hb.then s.env p1 fun F2 H2 ρ2 y w s2 hy ry p2 => ?_
  revert p2
  dsimp only
  cases qx : rdv ρ2 x with
  | none => exact False.elim
  | some d =>
    cases qy : rdv ρ2 y with
    | none => exact False.elim
    | some e' => exact fun p2 => ho F2 H2 d e' v w Q s2.env.same ((rx.step s2 hx).rd s2.env qx) (ry.rd s2.env qy) (post_giv s2.env (PostG.imp p2 (fun _ q => q.step (s.trans s2) e) fun _ _ _ q => q))
theorem md_1 {r : V → Hp → VK → Prop} {f : D → Option Sl} (ho : Op1 G r f) (ha : Md G E ta ma) : Md G E (tUn r ta) (m1 f ma) := fun F H ρ σ Q e p => by
  unfold m1 at p
  refine ha.then e p fun F1 H1 ρ1 x v s hx rx p1 => ?_
  revert p1
  dsimp only
  cases qx : rdv ρ1 x with
  | none => exact False.elim
  | some d => exact fun p2 => ho F1 H1 d v Q s.env.same (rx.rd s.env qx) (post_giv s.env (PostG.imp p2 (fun _ q => q.step s e) fun _ _ _ q => q))
/-! ### tests -/
theorem mdT_of {tt : TT} (h : Md G E ta ma) (ht : ∀ σ H Q, ta σ H (fun x H' => ∃ k, x = .bl k ∧ Q k H') → tt σ H Q) : MdT G E tt (fun ρ => (fzO (ma ρ)).bind fun x => match rdv x.2 x.1 with
    | some (.bool k) => .ok (k, x.2)
    | _ => .bad) := fun F H ρ σ Q e p => by
  refine ht _ _ _ (h.then e p fun F1 H1 ρ1 r v s hr rr p1 => ?_)
  revert p1
  dsimp only
  cases q : rdv ρ1 r with
  | none => exact False.elim
  | some d =>
    cases d with
    | bool k =>
      intro p1
      have z : v = .bl k := rr.rd s.env q
      exact ⟨k, z, p1 F1 H1 s⟩
    | _ => exact False.elim
/-- a value that is a bool, as a test -/
def mB (a : EV → Out (Rv × EV)) : EV → Out (Bool × EV) := fun ρ => (fzO (a ρ)).bind fun x => match rdv x.2 x.1 with
    | some (.bool k) => .ok (k, x.2)
    | _ => .bad
theorem sq_val (h : SE X K cl E a ta ma) (he : ∀ whole, isTrue a X.env whole = (do let v ← whole; standAt a.pos; holding [v] (truthy v)) := by intro _; rfl) : SQ X K cl E a (L2.tB ta) (mB ma) :=
  ⟨pt_val h.1 he, mdT_of h.2 fun _ _ _ q => q⟩
theorem sq_cmp {op : CmpOp} {r : R2} {f : D → D → Option Sl} (ho : OpR X (compareOp op) r) (hf : Op2 ⟨K, cl⟩ r f) (ha : SE X K cl E a ta ma) (hb : SE X K cl E b tb mb) (hm : behindInMarks op b = false) : SQ X K cl E (.Compare a [op] [b] pos) (tTest (tOp r ta tb)) (mB (m2 f ma mb)) :=
  ⟨pt_cmpR ho ha.1 hb.1 hm, mdT_of (md_2 hf ha.2 hb.2) fun _ _ _ q => q⟩
theorem se_cmp {op : CmpOp} {r : R2} {f : D → D → Option Sl} (ho : OpR X (compareOp op) r) (hf : Op2 ⟨K, cl⟩ r f) (ha : SE X K cl E a ta ma) (hb : SE X K cl E b tb mb) (hm : behindInMarks op b = false) : SE X K cl E (.Compare a [op] [b] pos) (tOp r ta tb) (m2 f ma mb) :=
  ⟨pe_cmpR ho ha.1 hb.1 hm, md_2 hf ha.2 hb.2⟩
theorem se_bin {op : Operator} {r : R2} {f : D → D → Option Sl} (ho : OpR X (binaryOp op) r) (hf : Op2 ⟨K, cl⟩ r f) (ha : SE X K cl E a ta ma) (hb : SE X K cl E b tb mb) : SE X K cl E (.BinOp a op b pos) (tOp r ta tb) (m2 f ma mb) :=
  ⟨pe_op ho ha.1 hb.1, md_2 hf ha.2 hb.2⟩
theorem se_ix {r : R2} {f : D → D → Option Sl} (hr : IxR X r) (hf : Op2 ⟨K, cl⟩ r f) (ha : SE X K cl E a ta ma) (hb : SE X K cl E b tb mb) (hs : PlainIx b := by exact fun _ _ => rfl) : SE X K cl E (.Subscript a b pos) (tOp r ta tb) (m2 f ma mb) :=
  ⟨pe_ix hr ha.1 hb.1 hs, md_2 hf ha.2 hb.2⟩
/-! a op b op' c -/
def mCh (f g : D → D → Option Sl) (a b c : EV → Out (Rv × EV)) : EV → Out (Rv × EV) := fun ρ => (fzO (a ρ)).bind fun x => (fzO (b x.2)).bind fun y =>
  match rdv y.2 x.1, rdv y.2 y.1 with
  | some d, some e => match f d e with
    | some (.val (.bool true)) => (fzO (c y.2)).bind fun z => match rdv z.2 y.1, rdv z.2 z.1 with
      | some e', some k => giv z.2 (g e' k)
      | _, _ => .bad
    | some (.val (.bool false)) => .ok (.val (.bool false), y.2)
    | _ => .bad
  | _, _ => .bad
theorem md_ch {r r' : R2} {f g : D → D → Option Sl} (ho : Op2 G r f) (ho' : Op2 G r' g) (ha : Md G E ta ma) (hb : Md G E tb mb) (hc : Md G E tc mc) : Md G E (tChain r r' ta tb tc) (mCh f g ma mb mc) := fun F H ρ σ Q e p => by
  unfold mCh at p
  refine ha.then e p fun F1 H1 ρ1 x v s hx rx p1 => ?_
  refine hb.then s.env p1 fun F2 H2 ρ2 y w s2 hy ry p2 => ?_
  revert p2
  dsimp only
  cases qx : rdv ρ2 x with
  | none => exact False.elim
  | some d =>
    cases qy : rdv ρ2 y with
    | none => exact False.elim
    | some e' =>
      dsimp only
      intro p2
      refine ho F2 H2 d e' v w _ s2.env.same ((rx.step s2 hx).rd s2.env qx) (ry.rd s2.env qy) ?_
      revert p2
      cases f d e' with
      | none => exact False.elim
      | some sl =>
        cases sl with
        | own d => exact False.elim
        | val d =>
          cases d with
          | bool k =>
            cases k with
            | false =>
              intro p2 F3 H3 u g3 ru
              have z : u = .bl false := R.rd g3.sub ru
              refine ⟨false, z, iteF ?_⟩
              exact (p2.step (s.trans s2) e) F3 H3 _ (g3.stp s2.env) (.bl false)
            | true =>
              intro p2 F3 H3 u g3 ru
              have z : u = .bl true := R.rd g3.sub ru
              refine ⟨true, z, iteT ?_⟩
              have s3 := g3.stp s2.env
              refine hc.then s3.env (PostG.imp p2 (fun _ q => q) fun _ _ _ q => q.step s3) fun F4 H4 ρ4 k z s4 hk rk p4 => ?_
              revert p4
              dsimp only
              cases q4 : rdv ρ4 y with
              | none => exact False.elim
              | some d4 =>
                cases q5 : rdv ρ4 k with
                | none => exact False.elim
                | some d5 =>
                  intro p4
                  exact ho' F4 H4 d4 d5 w z Q s4.env.same (((ry.step s3 hy).step s4 hy).rd s4.env q4) (rk.rd s4.env q5) (post_giv s4.env (PostG.imp p4 (fun _ q => q.step (((s.trans s2).trans s3).trans s4) e) fun _ _ _ q => q))
          | _ => exact False.elim
theorem se_ch {op op' : CmpOp} {r r' : R2} {f g : D → D → Option Sl} (ho : OpR X (compareOp op) r) (hf : Op2 ⟨K, cl⟩ r f) (ho' : OpR X (compareOp op') r') (hg : Op2 ⟨K, cl⟩ r' g) (ha : SE X K cl E a ta ma) (hb : SE X K cl E b tb mb) (hc : SE X K cl E c tc mc)
    (hm : lastMarks [op, op'] [b, c] = false := by with_unfolding_all rfl) : SE X K cl E (.Compare a [op, op'] [b, c] pos) (tChain r r' ta tb tc) (mCh f g ma mb mc) :=
  ⟨pe_chain ho ho' ha.1 hb.1 hc.1 hm, md_ch hf hg ha.2 hb.2 hc.2⟩
theorem sq_ch {op op' : CmpOp} {r r' : R2} {f g : D → D → Option Sl} (ho : OpR X (compareOp op) r) (hf : Op2 ⟨K, cl⟩ r f) (ho' : OpR X (compareOp op') r') (hg : Op2 ⟨K, cl⟩ r' g) (ha : SE X K cl E a ta ma) (hb : SE X K cl E b tb mb) (hc : SE X K cl E c tc mc)
    (hm : lastMarks [op, op'] [b, c] = false := by with_unfolding_all rfl) : SQ X K cl E (.Compare a [op, op'] [b, c] pos) (tTest (tChain r r' ta tb tc)) (mB (mCh f g ma mb mc)) :=
  ⟨pt_chain ho ho' ha.1 hb.1 hc.1 hm, mdT_of (md_ch hf hg ha.2 hb.2 hc.2) fun _ _ _ q => q⟩
/-! and, or, not -/
variable {na nb : EV → Out (Bool × EV)} {rest : List Expr}
def mAnd (a b : EV → Out (Bool × EV)) : EV → Out (Bool × EV) := fun ρ => (a ρ).bind fun x => if x.1 = true then b x.2 else .ok (false, x.2)
def mOr (a b : EV → Out (Bool × EV)) : EV → Out (Bool × EV) := fun ρ => (a ρ).bind fun x => if x.1 = true then .ok (true, x.2) else b x.2
def mNot (a : EV → Out (Bool × EV)) : EV → Out (Bool × EV) := fun ρ => (a ρ).bind fun x => .ok (!x.1, x.2)
theorem OkcT.step {F H F' H' : Hp} {σ : St} {ρ ρ' : EV} {Q : Bool → Hp → Prop} {x : Bool × EV} (s : Stp G F H ρ F' H' ρ' σ) (h : OkcT G F H σ ρ Q x) : OkcT G F' H' σ ρ' Q x :=
  fun F2 H2 s2 => h F2 H2 (s.trans s2)
theorem MdT.then {tt : TT} (ha : MdT G E tt na) {F H : Hp} {ρ : EV} {σ : St} {Q : Bool → Hp → Prop} {β : Type} {okc : β → Prop} {k : Bool × EV → Out β} (e : EnvR G F H ρ σ)
    (p : PostG okc (XC G E F H σ ρ) ((na ρ).bind k))
    (h : ∀ F1 H1 ρ1 r, Stp G F H ρ F1 H1 ρ1 σ → PostG okc (XC G E F1 H1 σ ρ1) (k (r, ρ1)) → Q r H1) : tt σ H Q := by
  refine ha F H ρ σ Q e ?_
  rw [post_bind] at p
  revert p
  cases na ρ with
  | bad => exact fun p => p
  | ex c f ρ' => exact fun p => p
  | ok x =>
    intro p F1 H1 s
    exact h F1 H1 x.2 x.1 s (PostG.imp (show PostG okc (XC G E F H σ ρ) (k x) from p) (fun _ q => q) fun c fs ρ q => q.step s)
theorem mdT_or {tt tu : TT} (ha : MdT G E tt na) (hb : MdT G E tu nb) : MdT G E (tOr tt tu) (mOr na nb) := fun F H ρ σ Q e p => by
  refine ha.then e p fun F1 H1 ρ1 k s p1 => ?_
  cases k with
  | true => exact iteT (p1 F1 H1 s)
  | false => exact iteF (hb F1 H1 ρ1 σ Q s.env (PostG.imp p1 (fun _ q => q.step s) fun _ _ _ q => q))
theorem mdT_not {tt : TT} (ha : MdT G E tt na) : MdT G E (tNot tt) (mNot na) := fun F H ρ σ Q e p => by
  refine ha.then e p fun F1 H1 ρ1 k s p1 => ?_
  exact p1 F1 H1 s
theorem sw_or1 {t : TT} (h : SQ X K cl E a t na) : SW X K cl E (.BoolOp .Or [a] pos) t na := ⟨pw_or1 h.1, h.2⟩
theorem sw_or {t u : TT} (h : SQ X K cl E a t na) (k : SW X K cl E (.BoolOp .Or (b :: rest) pos) u nb) : SW X K cl E (.BoolOp .Or (a :: b :: rest) pos) (tOr t u) (mOr na nb) := ⟨pw_or h.1 k.1, mdT_or h.2 k.2⟩
theorem sq_w {t : TT} (h : SW X K cl E a t na) : SQ X K cl E a t na := ⟨h.1.pt, h.2⟩
theorem sq_not {t : TT} (h : SQ X K cl E a t na) : SQ X K cl E (.UnaryOp .Not a pos) (tNot t) (mNot na) := ⟨pt_not h.1, mdT_not h.2⟩
/-- and, or, not as values (all but the last a bool) -/
def mAndV (a b : EV → Out (Rv × EV)) : EV → Out (Rv × EV) := fun ρ => (mB a ρ).bind fun x => if x.1 = true then b x.2 else .ok (.val (.bool false), x.2)
def mOrV (a b : EV → Out (Rv × EV)) : EV → Out (Rv × EV) := fun ρ => (mB a ρ).bind fun x => if x.1 = true then .ok (.val (.bool true), x.2) else b x.2
def mNotV (a : EV → Out (Rv × EV)) : EV → Out (Rv × EV) := fun ρ => (mB a ρ).bind fun x => .ok (.val (.bool !x.1), x.2)
theorem md_andV (ha : Md G E ta ma) (hb : Md G E tb mb) : Md G E (tAndV ta tb) (mAndV ma mb) := fun F H ρ σ Q e p => by
  refine (mdT_of (tt := fun σ H Q => ta σ H fun x H' => ∃ k, x = .bl k ∧ Q k H') ha fun _ _ _ q => q).then (Q := fun c H1 => if c = true then tb σ H1 Q else Q (.bl false) H1) e p fun F1 H1 ρ1 k s p1 => ?_
  cases k with
  | true => exact iteT (hb F1 H1 ρ1 σ Q s.env (PostG.imp p1 (fun _ q => q.step s e) fun _ _ _ q => q))
  | false => exact iteF ((p1.step s e) F1 H1 _ (.refl s.env) (.bl false))
theorem md_notV (ha : Md G E ta ma) : Md G E (tNotV ta) (mNotV ma) := fun F H ρ σ Q e p => by
  refine (mdT_of (tt := fun σ H Q => ta σ H fun x H' => ∃ k, x = .bl k ∧ Q k H') ha fun _ _ _ q => q).then (Q := fun c H1 => Q (.bl (!c)) H1) e p fun F1 H1 ρ1 k s p1 => ?_
  exact (p1.step s e) F1 H1 _ (.refl s.env) (.bl _)
theorem se_one {op} (h : SE X K cl E a ta ma) : SE X K cl E (.BoolOp op [a] pos) ta ma := ⟨pe_one h.1, h.2⟩
theorem se_and (h : SE X K cl E a ta ma) (k : SE X K cl E (.BoolOp .And (b :: rest) pos) tb mb) : SE X K cl E (.BoolOp .And (a :: b :: rest) pos) (tAndV ta tb) (mAndV ma mb) := ⟨pe_and h.1 k.1, md_andV h.2 k.2⟩
theorem se_not (h : SE X K cl E a ta ma) : SE X K cl E (.UnaryOp .Not a pos) (tNotV ta) (mNotV ma) := ⟨pe_not h.1, md_notV h.2⟩
def mIte (c : EV → Out (Bool × EV)) (a b : EV → Out (Rv × EV)) : EV → Out (Rv × EV) := fun ρ => (c ρ).bind fun x => if x.1 = true then a x.2 else b x.2
theorem md_ite {tt : TT} (hc : MdT G E tt na) (ha : Md G E ta ma) (hb : Md G E tb mb) : Md G E (tIf tt ta tb) (mIte na ma mb) := fun F H ρ σ Q e p => by
  refine hc.then e p fun F1 H1 ρ1 k s p1 => ?_
  cases k with
  | true => exact iteT (ha F1 H1 ρ1 σ Q s.env (PostG.imp p1 (fun _ q => q.step s e) fun _ _ _ q => q))
  | false => exact iteF (hb F1 H1 ρ1 σ Q s.env (PostG.imp p1 (fun _ q => q.step s e) fun _ _ _ q => q))
theorem se_ite {t : TT} (hc : SQ X K cl E c t na) (h : SE X K cl E a ta ma) (k : SE X K cl E b tb mb) : SE X K cl E (.IfExp c a b pos) (tIf t ta tb) (mIte na ma mb) := ⟨pe_ifExp hc.1 h.1 k.1, md_ite hc.2 h.2 k.2⟩
/-! names and constants -/
theorem se_var (i : Nat) {x : Str} (hN : X.N[i]? = some x := by rfl) (hv : Vis X.env.scope x := by first | exact Or.inl rfl | exact Or.inr (Or.inl rfl) | exact Or.inr (Or.inr rfl)) (hd : (x == ("__debug__" : Str)) = false := by decide)
    (hcd : (x == ("__classdict__" : Str)) = false := by decide) : SE X K cl E (.Name x pos) (tVar i) (mVar i) := ⟨pe_var hN hv hd hcd, md_var i⟩
theorem se_int {i j} : SE X K cl E (.Constant (.int i) j pos) (tC (.int i)) (mC (.int i)) := ⟨pe_int, md_c fun _ => .int _⟩
theorem se_bl {b j} : SE X K cl E (.Constant (.bool b) j pos) (tC (.bl b)) (mC (.bool b)) := ⟨pe_bl, md_c fun _ => .bl _⟩
theorem se_non {j} : SE X K cl E (.Constant .none j pos) (tC .non) (mC .none) := ⟨pe_non, md_c fun _ => .non⟩
theorem se_str {x j} : SE X K cl E (.Constant (.str x) j pos) (tC (.str x)) (mC (.str x)) := ⟨pe_str, md_c fun _ => .str _⟩
end
end Fr
namespace Fr
open PySem L2
section
variable {G : Gx} {E : XK} {X : Cx} {K : PySem.W.Frag} {cl : Str → Addr} {ta tb tc : TE} {ma mb mc : EV → Out (Rv × EV)} {a b c e : Expr} {es : List Expr} {pos : Pos} {F H F' H' : Hp} {ρ ρ' : EV} {σ : St}
/-! ### arguments -/
def aNil : EV → Out (List Rv × EV) := fun ρ => .ok ([], ρ)
def aCons (a : EV → Out (Rv × EV)) (r : EV → Out (List Rv × EV)) : EV → Out (List Rv × EV) := fun ρ => (fzO (a ρ)).bind fun x => (r x.2).bind fun y => .ok (x.1 :: y.1, y.2)
theorem OkcA.step {Q : List V → Hp → Prop} {x : List Rv × EV} (s : Stp G F H ρ F' H' ρ' σ) (h : OkcA G F H σ ρ Q x) : OkcA G F' H' σ ρ' Q x :=
  fun F2 H2 vs s2 => h F2 H2 vs (s.trans s2)
theorem MdA.then {t : TA} {m : EV → Out (List Rv × EV)} (ha : MdA G E t m) {Q : List V → Hp → Prop} {β : Type} {okc : β → Prop} {k : List Rv × EV → Out β} (e : EnvR G F H ρ σ)
    (p : PostG okc (XC G E F H σ ρ) ((m ρ).bind k))
    (h : ∀ F1 H1 ρ1 rs vs, Stp G F H ρ F1 H1 ρ1 σ → ResRs G F1 H1 ρ1 σ rs vs → PostG okc (XC G E F1 H1 σ ρ1) (k (rs, ρ1)) → Q vs H1) : t σ H Q := by
  refine ha F H ρ σ Q e ?_
  rw [post_bind] at p
  revert p
  cases m ρ with
  | bad => exact fun p => p
  | ex c f ρ' => exact fun p => p
  | ok x =>
    intro p F1 H1 vs s r
    exact h F1 H1 x.2 x.1 vs s r (PostG.imp (show PostG okc (XC G E F H σ ρ) (k x) from p) (fun _ q => q) fun c fs ρ q => q.step s)
def rdvs (ρ : EV) : List Rv → Option (List D)
  | [] => some []
  | r :: rs => match rdv ρ r, rdvs ρ rs with
    | some d, some ds => some (d :: ds)
    | _, _ => none
theorem ResRs.rd {rs : List Rv} {vs : List V} (e : EnvR G F H ρ σ) (h : ResRs G F H ρ σ rs vs) : ∀ ds, rdvs ρ rs = some ds → Rds G F H ds vs := by
  induction h with
  | nil => intro ds q; simp [rdvs] at q; subst q; exact .nil
  | @cons r v rs vs hr rr t ih =>
    intro ds q
    simp only [rdvs] at q
    cases hd : rdv ρ r with
    | none => rw [hd] at q; cases q
    | some d =>
      cases hds : rdvs ρ rs with
      | none => rw [hd, hds] at q; cases q
      | some ds' =>
        rw [hd, hds] at q
        injection q with q
        subst q
        exact .cons (rr.rd e hd) (ih _ hds)
theorem sa_nil : SA X K cl E [] tNil aNil := ⟨pa_nil, fun F H ρ σ Q e p => p F H [] (.refl e) .nil⟩
theorem mdA_cons {t : TA} {m : EV → Out (List Rv × EV)} (ha : Md G E ta ma) (hr : MdA G E t m) : MdA G E (tCons ta t) (aCons ma m) := fun F H ρ σ Q e p => by
  refine ha.then e p fun F1 H1 ρ1 x v s hx rx p1 => ?_
  refine hr.then s.env p1 fun F2 H2 ρ2 rs vs s2 r2 p2 => ?_
  exact p2 F2 H2 _ (s.trans s2) (.cons hx ((rx.step s2 hx).hb hx) r2)
theorem sa_cons {t : TA} {m : EV → Out (List Rv × EV)} (ha : SE X K cl E e ta ma) (hr : SA X K cl E es t m) (hs : starEach (e :: es) X.env = (false, eval e X.env) :: starEach es X.env := by rfl) : SA X K cl E (e :: es) (tCons ta t) (aCons ma m) :=
  ⟨pa_cons ha.1 hr.1 hs, mdA_cons ha.2 hr.2⟩
/-- a built-in called with values -/
def mN (f : List D → Option Sl) (as : EV → Out (List Rv × EV)) : EV → Out (Rv × EV) := fun ρ => (as ρ).bind fun x => match rdvs x.2 x.1 with
  | some ds => giv x.2 (f ds)
  | none => .bad
theorem md_N {r : List V → Hp → VK → Prop} {f : List D → Option Sl} {t : TA} {m : EV → Out (List Rv × EV)} (ho : OpN G r f) (ha : MdA G E t m) : Md G E (tCB r t) (mN f m) := fun F H ρ σ Q e p => by
  refine ha.then e p fun F1 H1 ρ1 rs vs s rr p1 => ?_
  revert p1
  dsimp only
  cases q : rdvs ρ1 rs with
  | none => exact False.elim
  | some ds => exact fun p1 => ho F1 H1 ds vs Q s.env.same (rr.rd s.env ds q) (post_giv s.env (PostG.imp p1 (fun _ q => q.step s e) fun _ _ _ q => q))
theorem se_callB {id : String} {r : List V → Hp → VK → Prop} {f : List D → Option Sl} {x : Str} {p : Pos} {t : TA} {m : EV → Out (List Rv × EV)} (hc : CallR X (.builtin id) r) (hf : OpN ⟨K, cl⟩ r f) (hm : X.mg x = none) (hv : bootBuiltins x = some (.builtin id)) (ha : SA X K cl E (e :: es) t m) (hg : Gl X x := by rfl) (hn : x ≠ "__name__" := by decide)
    (hdb : (x == ("__debug__" : Str)) = false := by decide) (he : starEach (e :: es) X.env = (false, eval e X.env) :: starEach es X.env := by rfl) (hpl : (backTo pos (starEach es X.env)).any (·.1) = false := by rfl) : SE X K cl E (.Call (.Name x p) (e :: es) [] pos) (tCB r t) (mN f m) :=
  ⟨pe_callB hc hg hm hv ha.1 hn hdb he hpl, md_N hf ha.2⟩
theorem se_callTy {T : String} {r : List V → Hp → VK → Prop} {f : List D → Option Sl} {x : Str} {p : Pos} {t : TA} {m : EV → Out (List Rv × EV)} (hc : CallR X (.type T) r) (hf : OpN ⟨K, cl⟩ r f) (hm : X.mg x = none) (hv : bootBuiltins x = some (.type T)) (ha : SA X K cl E (e :: es) t m) (hg : Gl X x := by rfl) (hn : x ≠ "__name__" := by decide)
    (hdb : (x == ("__debug__" : Str)) = false := by decide) (he : starEach (e :: es) X.env = (false, eval e X.env) :: starEach es X.env := by rfl) (hpl : (backTo pos (starEach es X.env)).any (·.1) = false := by rfl) : SE X K cl E (.Call (.Name x p) (e :: es) [] pos) (tCB r t) (mN f m) :=
  ⟨pe_callTy hc hg hm hv ha.1 hn hdb he hpl, md_N hf ha.2⟩
/-! ### displays -/
def mTup (as : EV → Out (List Rv × EV)) : EV → Out (Rv × EV) := fun ρ => (as ρ).bind fun x => match vals x.1 with
  | some ds => if ds.length ≤ sizeLine then .ok (.val (.tuple ds), x.2) else .bad
  | none => .bad
where vals : List Rv → Option (List D)
  | [] => some []
  | .val d :: r => (vals r).map (d :: ·)
  | _ :: _ => none
def mLst (as : EV → Out (List Rv × EV)) : EV → Out (Rv × EV) := fun ρ => (as ρ).bind fun x => match mTup.vals x.1 with
  | some ds => if ds.length ≤ sizeLine then .ok (.own (.list ds), x.2) else .bad
  | none => .bad
theorem ResRs.vals {rs : List Rv} {vs : List V} (h : ResRs G F H ρ σ rs vs) : ∀ ds, mTup.vals rs = some ds → Rs G F ds vs := by
  induction h with
  | nil => intro ds q; simp [mTup.vals] at q; subst q; exact .nil
  | @cons r v rs vs hr r' t ih =>
    intro ds q
    cases r with
    | val d =>
      simp only [mTup.vals] at q
      cases z : mTup.vals rs with
      | none => rw [z] at q; cases q
      | some ds' =>
        rw [z] at q
        simp only [Option.map_some] at q
        injection q with q
        subst q
        exact .cons r' (ih _ z)
    | own d => cases q
    | ref i => cases q
theorem Grow.put {a : Addr} {o : HO} (s : Same F H) (n : H a = none) : Grow F H (upd F a o) (upd H a o) where
  fr := same_upd (s.free n)
  sub := fun b x q => by
    by_cases z : b = a
    · subst z; rw [upd_same] at q ⊢; exact q
    · rw [upd_ne z] at q ⊢; exact s _ _ q
  new := fun b x q => by
    by_cases z : b = a
    · subst z; exact .inr (.inl n)
    · rw [upd_ne z] at q; exact .inl q
  keep := same_upd n
/-- a new object beside: not frozen -/
theorem Grow.beside {a : Addr} {o : HO} (s : Same F H) (n : H a = none) : Grow F H F (upd H a o) :=
  ⟨.refl _, s.trans (same_upd n), fun _ _ h => .inl h, same_upd n⟩
/-- (a, b): the object as it was laid -/
def tTupF (t : TA) : TE := fun σ H Q => t σ H fun xs H1 => xs.length ≤ sizeLine ∧ ∀ p (o : Obj), H1 p = none → o.dict = none → Q (.ref p) (upd H1 p (.frz o (.tup xs)))
theorem pe_tupF {x1} {t : TA} (h : PA X es t) : PE X (.Tuple es x1 pos) (tTupF t) := by
  refine ⟨fun pins s σ H Q I hq => wpAny_Tuple_spliced (thn (h.run pos pins s σ H _ I hq) fun us s1 ⟨xs, H1, I1, r, z, q⟩ => ⟨by rw [← r.length]; exact z, ?_⟩)⟩
  refine ⟨.ref s1.heap.objs.size, _, I1.laid (t' := s1.toks) (o := .frz { cls := .type "tuple", data := .seq us.toArray } (.tup xs)) (fun b u e => Heap.get?_push_of_some _ e) (Nat.le_refl _) ?_, rfl, q _ _ (I1.hok.fresh (Nat.le_refl _)) rfl⟩
  exact ⟨Heap.get?_push_size _ rfl, z, us, r, ⟨_, Heap.get?_push_size _ rfl, rfl, _, rfl⟩⟩
theorem md_tup {t : TA} {m : EV → Out (List Rv × EV)} (ha : MdA G E t m) : Md G E (fun σ H Q => tTup t σ H Q ∨ tTupF t σ H Q) (mTup m) := fun F H ρ σ Q e p => by
  by_cases hs : ∃ ds ρ', mTup m ρ = .ok (.val (.tuple ds), ρ') ∧ stD ds = true
  · refine .inr ?_
    obtain ⟨ds0, ρ0, hs1, hs2⟩ := hs
    have pp := p
    unfold mTup at pp hs1
    refine ha F H ρ σ _ e ?_
    revert pp hs1
    cases m ρ with
    | bad => exact fun _ p => p
    | ex c f ρ' => exact fun _ p => p
    | ok x =>
      intro hs1 p F1 H1 vs s rr
      dsimp only [Out.bind] at hs1 p
      cases q : mTup.vals x.1 with
      | none => rw [q] at p; exact p.elim
      | some ds =>
        rw [q] at p hs1
        dsimp only at p hs1
        have r := rr.vals ds q
        by_cases hl : ds.length ≤ sizeLine
        · rw [if_pos hl] at p hs1
          injection hs1 with hs1; injection hs1 with hs1 _; injection hs1 with hs1; injection hs1 with hs1
          subst hs1
          refine ⟨by rw [r.length]; exact hl, fun p' o n ho => ?_⟩
          have g : Grow F1 H1 (upd F1 p' (.frz o (.tup vs))) (upd H1 p' (.frz o (.tup vs))) := .put s.env.same n
          exact ((show Okc G F H σ ρ Q _ from p).step s e) _ _ _ (g.stp s.env) (R.tup (.inr ⟨hs2, o, ho, upd_same⟩) (r.mono g.fr))
        · rw [if_neg hl] at p; exact p.elim
  refine .inl ?_
  have hs' : ∀ ds ρ', mTup m ρ = .ok (.val (.tuple ds), ρ') → stD ds = false := fun ds ρ' h => by
    cases z : stD ds with
    | false => rfl
    | true => exact (hs ⟨ds, ρ', h, z⟩).elim
  clear hs
  unfold mTup at hs' p
  refine ha F H ρ σ _ e ?_
  revert p hs'
  cases m ρ with
  | bad => exact fun p _ => p
  | ex c f ρ' => exact fun p _ => p
  | ok x =>
    intro p hs' F1 H1 vs s rr
    dsimp only [Out.bind] at hs' p
    cases q : mTup.vals x.1 with
    | none => rw [q] at p; exact p.elim
    | some ds =>
      rw [q] at p hs'
      dsimp only at p hs'
      have r := rr.vals ds q
      by_cases hl : ds.length ≤ sizeLine
      · rw [if_pos hl] at p hs'
        refine ⟨by rw [r.length]; exact hl, fun p' n => ?_⟩
        have g : Grow F1 H1 (upd F1 p' (.tup vs)) (upd H1 p' (.tup vs)) := .put s.env.same n
        exact ((show Okc G F H σ ρ Q _ from p).step s e) _ _ _ (g.stp s.env) (R.tup (.inl ⟨hs' _ _ rfl, upd_same⟩) (r.mono g.fr))
      · rw [if_neg hl] at p; exact p.elim
theorem md_lst {t : TA} {m : EV → Out (List Rv × EV)} (ha : MdA G E t m) : Md G E (tLst t) (mLst m) := fun F H ρ σ Q e p => by
  refine ha.then e p fun F1 H1 ρ1 rs vs s rr p1 => ?_
  revert p1
  dsimp only
  cases q : mTup.vals rs with
  | none => exact False.elim
  | some ds =>
    dsimp only
    have r := rr.vals ds q
    by_cases hl : ds.length ≤ sizeLine
    · rw [if_pos hl]
      intro p1
      refine ⟨by rw [r.length]; exact hl, fun p n => ?_⟩
      have g : Grow F1 H1 F1 (upd H1 p (.lst vs)) := .beside s.env.same n
      exact (p1.step s e) _ _ _ (g.stp s.env) ⟨p, rfl, s.env.same.free n, n, vs, upd_same, r⟩
    · rw [if_neg hl]; exact False.elim
theorem se_tup {x1} {t : TA} {m : EV → Out (List Rv × EV)} (h : SA X K cl E es t m) : SE X K cl E (.Tuple es x1 pos) (fun σ H Q => tTup t σ H Q ∨ tTupF t σ H Q) (mTup m) := ⟨⟨fun pins s σ H Q I q => q.elim ((pe_tup h.1).run pins s σ H Q I) ((pe_tupF h.1).run pins s σ H Q I)⟩, md_tup h.2⟩
theorem se_lst {t : TA} {m : EV → Out (List Rv × EV)} (h : SA X K cl E es t m) : SE X K cl E (.List es pos) (tLst t) (mLst m) := ⟨pe_lst h.1, md_lst h.2⟩
/-! ### the call of a def -/
abbrev Mf := EV → Out (Rv × EV)
def SpF (G : Gx) (mf : Mf) : Sp := fun vs H Q E => ∃ F as, EnvR G F H as (vs.map some) ∧ (∀ x ∈ as, x ≠ none) ∧ Post G E F H (vs.map some) as Q (mf as)
def argOf (ρ : EV) : Rv → Option Sl
  | .val d => some (.val d)
  | .own _ => none
  | .ref i => match ρ[i]? with
    | some (some (.own d)) => some (.own d)
    | _ => none
def posOf (i : Nat) : List Rv → Nat → Option Nat
  | [], _ => none
  | .ref j :: r, k => if j = i then some k else posOf i r (k + 1)
  | _ :: r, k => posOf i r (k + 1)
/-- no slot twice -/
def ndR : List Rv → Bool
  | [] => true
  | .ref j :: r => (posOf j r 0).isNone && ndR r
  | _ :: r => ndR r
/-- the caller's slots behind the call -/
def wb (ρ : EV) (rs : List Rv) (as : EV) : EV := ρ.mapIdx fun i x => match posOf i rs 0 with
  | some k => (as[k]?).getD x
  | none => x
def callF (mf : Mf) (ρ : EV) (rs : List Rv) : Out (Rv × EV) := if ndR rs = true then
    match mf (rs.map (argOf ρ)) with
    | .ok (.ref _, _) => .bad
    | .ok (r, as) => .ok (r, wb ρ rs as)
    | .ex c f as => .ex c f (wb ρ rs as)
    | .bad => .bad
  else .bad
theorem posOf_shift (i : Nat) : ∀ (rs : List Rv) (k n : Nat), posOf i rs (k + n) = (posOf i rs k).map (· + n)
  | [], k, n => rfl
  | .val d :: r, k, n => by
    simp only [posOf]; rw [Nat.add_right_comm]; exact posOf_shift i r (k + 1) n
  | .own d :: r, k, n => by
    simp only [posOf]; rw [Nat.add_right_comm]; exact posOf_shift i r (k + 1) n
  | .ref j :: r, k, n => by
    simp only [posOf]
    by_cases h : j = i
    · rw [if_pos h, if_pos h]; rfl
    · rw [if_neg h, if_neg h]; rw [Nat.add_right_comm]; exact posOf_shift i r (k + 1) n
theorem posOf_get (i : Nat) : ∀ (rs : List Rv) (k : Nat), posOf i rs 0 = some k → rs[k]? = some (.ref i)
  | [], k, h => by cases h
  | .val d :: r, k, h => by
    simp only [posOf] at h
    rw [posOf_shift i r 0 1] at h
    cases q : posOf i r 0 with
    | none => rw [q] at h; cases h
    | some z => rw [q] at h; simp only [Option.map_some] at h; injection h with h; subst h; simpa using posOf_get i r z q
  | .own d :: r, k, h => by
    simp only [posOf] at h
    rw [posOf_shift i r 0 1] at h
    cases q : posOf i r 0 with
    | none => rw [q] at h; cases h
    | some z => rw [q] at h; simp only [Option.map_some] at h; injection h with h; subst h; simpa using posOf_get i r z q
  | .ref j :: r, k, h => by
    simp only [posOf] at h
    by_cases e : j = i
    · rw [if_pos e] at h; injection h with h; subst h; subst e; rfl
    · rw [if_neg e] at h
      rw [posOf_shift i r 0 1] at h
      cases q : posOf i r 0 with
      | none => rw [q] at h; cases h
      | some z => rw [q] at h; simp only [Option.map_some] at h; injection h with h; subst h; simpa using posOf_get i r z q
theorem posOf_none (i : Nat) : ∀ (rs : List Rv) (n : Nat), posOf i rs n = none → ∀ k : Nat, rs[k]? ≠ some (.ref i)
  | [], n, h, k => by simp
  | .val d :: r, n, h, k => by
    cases k with
    | zero => simp
    | succ k => simpa using posOf_none i r (n + 1) h k
  | .own d :: r, n, h, k => by
    cases k with
    | zero => simp
    | succ k => simpa using posOf_none i r (n + 1) h k
  | .ref j :: r, n, h, k => by
    simp only [posOf] at h
    by_cases e : j = i
    · rw [if_pos e] at h; cases h
    · rw [if_neg e] at h
      cases k with
      | zero => simpa using e
      | succ k => simpa using posOf_none i r (n + 1) h k
theorem ndR_inj : ∀ (rs : List Rv), ndR rs = true → ∀ i j k : Nat, rs[j]? = some (.ref i) → rs[k]? = some (.ref i) → j = k
  | [], _, i, j, k, h, _ => by simp at h
  | .val d :: r, n, i, j, k, h1, h2 => by
    cases j with
    | zero => simp at h1
    | succ j =>
      cases k with
      | zero => simp at h2
      | succ k => rw [ndR_inj r n i j k (by simpa using h1) (by simpa using h2)]
  | .own d :: r, n, i, j, k, h1, h2 => by
    cases j with
    | zero => simp at h1
    | succ j =>
      cases k with
      | zero => simp at h2
      | succ k => rw [ndR_inj r n i j k (by simpa using h1) (by simpa using h2)]
  | .ref z :: r, n, i, j, k, h1, h2 => by
    simp only [ndR, Bool.and_eq_true, Option.isNone_iff_eq_none] at n
    cases j with
    | zero =>
      simp at h1
      subst h1
      cases k with
      | zero => rfl
      | succ k => exact (posOf_none z r 0 n.1 k (by simpa using h2)).elim
    | succ j =>
      cases k with
      | zero => simp at h2; subst h2; exact (posOf_none z r 0 n.1 j (by simpa using h1)).elim
      | succ k => rw [ndR_inj r n.2 i j k (by simpa using h1) (by simpa using h2)]
theorem ResRs.len {rs : List Rv} {vs : List V} (h : ResRs G F H ρ σ rs vs) : vs.length = rs.length := by
  induction h with
  | nil => rfl
  | cons _ _ _ ih => simp [ih]
theorem ResRs.at {rs : List Rv} {vs : List V} (h : ResRs G F H ρ σ rs vs) : ∀ (k : Nat) (r : Rv), rs[k]? = some r → ∃ v, vs[k]? = some v ∧ ResR G H F H ρ σ r v ∧ ∀ d, r ≠ .own d := by
  induction h with
  | nil => intro k r q; simp at q
  | cons hr r t ih =>
    intro k r' q
    cases k with
    | zero => simp at q; subst q; exact ⟨_, rfl, r, hr⟩
    | succ k => simpa using ih k r' (by simpa using q)
theorem map_at {α β : Type} (f : α → β) (l : List α) (i : Nat) (y : β) : (l.map f)[i]? = some y ↔ ∃ x, l[i]? = some x ∧ f x = y := by
  rw [List.getElem?_map]
  cases l[i]? <;> simp
/-- the callee's slots -/
theorem ResRs.env {rs : List Rv} {vs : List V} (e : EnvR G F H ρ σ) (n : ndR rs = true) (h : ResRs G F H ρ σ rs vs) : EnvR G F H (rs.map (argOf ρ)) (vs.map some) ∧ ∀ x ∈ rs.map (argOf ρ), x ≠ none := by
  have own : ∀ (k : Nat) (d : D), (rs.map (argOf ρ))[k]? = some (some (Sl.own d)) → ∃ i a, rs[k]? = some (.ref i) ∧ ρ[i]? = some (some (Sl.own d)) ∧ σ[i]? = some (some (V.ref a)) ∧ vs[k]? = some (V.ref a) := by
    intro k d q
    obtain ⟨r, h1, h2⟩ := (map_at _ _ _ _).mp q
    obtain ⟨v, h3, h4, h5⟩ := h.at k r h1
    cases r with
    | val x => cases h2
    | own x => cases h2
    | ref i =>
      obtain ⟨k1, y, k2⟩ := h4
      simp only [argOf, k2] at h2
      injection h2 with h2; injection h2 with h2
      subst h2
      obtain ⟨a, z1, z2, z3⟩ := e.own i y k2
      rw [k1] at z1
      injection z1 with z1; injection z1 with z1
      subst z1
      exact ⟨i, a, h1, k2, k1, h3⟩
  refine ⟨⟨e.same, by simp [h.len], ?_, ?_, ?_⟩, ?_⟩
  · intro k d q
    obtain ⟨r, h1, h2⟩ := (map_at _ _ _ _).mp q
    obtain ⟨v, h3, h4, h5⟩ := h.at k r h1
    cases r with
    | val x => simp only [argOf] at h2; injection h2 with h2; injection h2 with h2; subst h2; exact ⟨v, (map_at _ _ _ _).mpr ⟨v, h3, rfl⟩, h4⟩
    | own x => cases h2
    | ref i =>
      obtain ⟨k1, y, k2⟩ := h4
      simp only [argOf, k2] at h2
      injection h2 with h2; cases h2
  · intro k d q
    obtain ⟨i, a, h1, h2, h3, h4⟩ := own k d q
    obtain ⟨b, z1, z2, z3⟩ := e.own i d h2
    rw [h3] at z1
    injection z1 with z1; injection z1 with z1; injection z1 with z1
    subst z1
    exact ⟨a, (map_at _ _ _ _).mpr ⟨_, h4, rfl⟩, z2, z3⟩
  · rintro j k b ⟨⟨d, q1⟩, q2⟩ ⟨⟨d', q3⟩, q4⟩
    obtain ⟨i, a, h1, h2, h3, h4⟩ := own j d q1
    obtain ⟨i', a', h1', h2', h3', h4'⟩ := own k d' q3
    obtain ⟨x, y1, y2⟩ := (map_at _ _ _ _).mp q2
    obtain ⟨x', y1', y2'⟩ := (map_at _ _ _ _).mp q4
    rw [h4] at y1; rw [h4'] at y1'
    injection y1 with y1; injection y1' with y1'
    subst y1; subst y1'
    injection y2 with y2; injection y2' with y2'
    injection y2 with y2; injection y2' with y2'
    rw [y2] at h3; rw [y2'] at h3'
    have : i = i' := e.ne i i' b ⟨⟨d, h2⟩, h3⟩ ⟨⟨d', h2'⟩, h3'⟩
    subst this
    exact ndR_inj rs n i j k h1 h1'
  · intro x hx q
    subst q
    obtain ⟨r, h1, h2⟩ := List.mem_map.mp hx
    obtain ⟨k, h3⟩ := List.mem_iff_getElem?.mp h1
    obtain ⟨v, h4, h5, h6⟩ := h.at k r h3
    cases r with
    | val x => cases h2
    | own x => exact h6 x rfl
    | ref i => obtain ⟨k1, y, k2⟩ := h5; simp only [argOf, k2] at h2; cases h2
/-- behind the call -/
theorem ResRs.back {rs : List Rv} {vs : List V} {as : EV} (e : EnvR G F H ρ σ) (n : ndR rs = true) (h : ResRs G F H ρ σ rs vs) (s : Stp G F H (rs.map (argOf ρ)) F' H' as (vs.map some)) : Stp G F H ρ F' H' (wb ρ rs as) σ := by
  have ec := (h.env e n).1
  have get : ∀ i : Nat, (wb ρ rs as)[i]? = (ρ[i]?).map fun x => match posOf i rs 0 with
      | some k => (as[k]?).getD x
      | none => x := fun i => by simp [wb]
  have some_of : ∀ (i k : Nat), posOf i rs 0 = some k → ∃ d d' a, ρ[i]? = some (some (Sl.own d)) ∧ as[k]? = some (some (Sl.own d')) ∧ σ[i]? = some (some (V.ref a)) ∧ (vs.map some)[k]? = some (some (V.ref a)) ∧ (rs.map (argOf ρ))[k]? = some (some (Sl.own d)) := by
    intro i k q
    have h1 := posOf_get i rs k q
    obtain ⟨v, h2, ⟨h3, d, h4⟩, _⟩ := h.at k _ h1
    obtain ⟨a, z1, z2, z3⟩ := e.own i d h4
    rw [h3] at z1
    injection z1 with z1; injection z1 with z1
    subst z1
    have h5 : (rs.map (argOf ρ))[k]? = some (some (Sl.own d)) := (map_at _ _ _ _).mpr ⟨_, h1, by simp only [argOf, h4]⟩
    rcases s.mode k with ⟨x, x', m1, m2⟩ | ⟨m1, m2⟩
    · exact ⟨d, x', a, h4, m2, h3, (map_at _ _ _ _).mpr ⟨_, h2, rfl⟩, h5⟩
    · exact (m1 d h5).elim
  have ow : ∀ (k : Nat) (a : Addr), Ow (rs.map (argOf ρ)) (vs.map some) k a → ∃ i, Ow ρ σ i a ∧ posOf i rs 0 = some k := by
    rintro k a ⟨⟨d, q1⟩, q2⟩
    obtain ⟨r, h1, h2⟩ := (map_at _ _ _ _).mp q1
    obtain ⟨v, h3, h4, h5⟩ := h.at k r h1
    cases r with
    | val x => cases h2
    | own x => cases h2
    | ref i =>
      obtain ⟨k1, y, k2⟩ := h4
      obtain ⟨x, y1, y2⟩ := (map_at _ _ _ _).mp q2
      rw [h3] at y1
      injection y1 with y1; subst y1
      injection y2 with y2; subst y2
      refine ⟨i, ⟨⟨y, k2⟩, k1⟩, ?_⟩
      cases z : posOf i rs 0 with
      | none => exact (posOf_none i rs 0 z k h1).elim
      | some k' => rw [ndR_inj rs n i k' k (posOf_get i rs k' z) h1]
  have mode : ∀ i : Nat, (∃ d d' : D, ρ[i]? = some (some (Sl.own d)) ∧ (wb ρ rs as)[i]? = some (some (Sl.own d'))) ∨ ((∀ d : D, ρ[i]? ≠ some (some (Sl.own d))) ∧ (wb ρ rs as)[i]? = ρ[i]?) := by
    intro i
    rw [get]
    cases q : posOf i rs 0 with
    | some k =>
      obtain ⟨d, d', a, h1, h2, h3, h4, h5⟩ := some_of i k q
      exact .inl ⟨d, d', h1, by rw [h1]; simp [h2]⟩
    | none =>
      cases z : ρ[i]? with
      | none => exact .inr ⟨by simp, rfl⟩
      | some x =>
        cases x with
        | none => exact .inr ⟨by simp, rfl⟩
        | some x =>
          cases x with
          | val d => exact .inr ⟨by simp, rfl⟩
          | own d => exact .inl ⟨d, d, rfl, rfl⟩
  have owb : ∀ (i : Nat) (a : Addr), Ow (wb ρ rs as) σ i a ↔ Ow ρ σ i a := by
    intro i a
    rcases mode i with ⟨d, d', h1, h2⟩ | ⟨h1, h2⟩
    · exact ⟨fun ⟨_, q⟩ => ⟨⟨d, h1⟩, q⟩, fun ⟨_, q⟩ => ⟨⟨d', h2⟩, q⟩⟩
    · exact ⟨fun ⟨⟨e, p⟩, q⟩ => (h1 e (h2 ▸ p)).elim, fun ⟨⟨e, p⟩, q⟩ => (h1 e p).elim⟩
  refine ⟨s.fr, ⟨s.env.same, by simp [wb, e.len], ?_, ?_, ?_⟩, s.new, ?_, mode⟩
  · intro i d q
    rcases mode i with ⟨x, x', h1, h2⟩ | ⟨h1, h2⟩
    · rw [h2] at q; injection q with q; cases q
    · rw [h2] at q
      obtain ⟨v, k1, k2⟩ := e.val i d q
      exact ⟨v, k1, k2.mono s.fr⟩
  · intro i d q
    cases z : posOf i rs 0 with
    | some k =>
      obtain ⟨x, x', a, h1, h2, h3, h4, h5⟩ := some_of i k z
      rw [get, h1, z] at q
      simp [h2] at q
      subst q
      obtain ⟨b, k1, k2, k3⟩ := s.env.own k _ h2
      rw [h4] at k1
      injection k1 with k1; injection k1 with k1; injection k1 with k1
      subst k1
      exact ⟨a, h3, k2, k3⟩
    | none =>
      rw [get, z] at q
      have q' : ρ[i]? = some (some (Sl.own d)) := by
        cases y : ρ[i]? with
        | none => rw [y] at q; cases q
        | some x => rw [y] at q; simpa using q
      obtain ⟨a, k1, k2, k3⟩ := e.own i d q'
      obtain ⟨x, hx⟩ := k3.there
      have nw : ∀ k, ¬ Ow (rs.map (argOf ρ)) (vs.map some) k a := fun k w => by
        obtain ⟨j, w1, w2⟩ := ow k a w
        have : i = j := e.ne i j a ⟨⟨d, q'⟩, k1⟩ w1
        subst this
        rw [z] at w2; cases w2
      refine ⟨a, k1, ?_, (k3.mono s.fr).at ((s.keep a x hx nw).trans hx.symm)⟩
      cases y : F' a with
      | none => rfl
      | some o =>
        rcases s.new a o y with u | u
        · rw [k2] at u; cases u
        · exact (u.own k3).elim
  · exact fun i j a h1 h2 => e.ne i j a ((owb i a).mp h1) ((owb j a).mp h2)
  · intro a o h1 h2
    exact s.keep a o h1 fun k w => by
      obtain ⟨j, w1, w2⟩ := ow k a w
      exact h2 j w1
/-- a def called: from its promise -/
theorem call_ok {rs : List Rv} {vs : List V} {mf : Mf} {Q : VK} (e : EnvR G F H ρ σ) (h : ResRs G F H ρ σ rs vs) (p : Post G E F H σ ρ Q (callF mf ρ rs)) : SpF G mf vs H Q E := by
  unfold callF at p
  revert p
  by_cases n : ndR rs = true
  · rw [if_pos n]
    intro p
    obtain ⟨ec, hn⟩ := h.env e n
    refine ⟨F, _, ec, hn, ?_⟩
    revert p
    cases mf (rs.map (argOf ρ)) with
    | bad => exact id
    | ex c f as => exact fun p F' H' cls dd s x => p F' H' cls dd (h.back e n s) x
    | ok x =>
      obtain ⟨r, as⟩ := x
      cases r with
      | ref i => exact False.elim
      | val d => exact fun p F' H' v s r => p F' H' v (h.back e n s) r
      | own d => exact fun p F' H' v s r => p F' H' v (h.back e n s) r
  · rw [if_neg n]; exact False.elim
/-- f(..): dds the defaults' data -/
def mFn (mf : Mf) (dds : List D) (as : EV → Out (List Rv × EV)) : EV → Out (Rv × EV) := fun ρ => (as ρ).bind fun x => callF mf x.2 (x.1 ++ dds.map Rv.val)
theorem ResRs.more {rs : List Rv} {vs : List V} {dds : List D} {dvs : List V} (h : ResRs G F H ρ σ rs vs) (hd : Rs G F dds dvs) : ResRs G F H ρ σ (rs ++ dds.map Rv.val) (vs ++ dvs) := by
  induction h with
  | nil =>
    simp only [List.nil_append]
    induction dds generalizing dvs with
    | nil => cases hd; exact .nil
    | cons d ds ih =>
      cases hd with
      | cons q t => exact .cons (by simp) q (ih t)
  | cons hr r t ih => exact .cons hr r ih
theorem md_fn {mf : Mf} {dds : List D} {dvs : List V} {t : TA} {m : EV → Out (List Rv × EV)} (hd : ∀ F, Rs G F dds dvs) (ha : MdA G E t m) : Md G E (tCall (SpF G mf) dvs E t) (mFn mf dds m) := fun F H ρ σ Q e p => by
  refine ha.then e p fun F1 H1 ρ1 rs vs s rr p1 => ?_
  exact call_ok s.env (rr.more (hd F1)) (PostG.imp p1 (fun _ q => q.step s e) fun _ _ _ q => q)
end
end Fr
namespace Fr
open PySem L2
/-- a def's entry -/
structure An where
  F0 : Hp
  H0 : Hp
  as : EV
  vs : List V
structure StI (G : Gx) (A : An) (F H : Hp) (ρ : EV) (σ : St) : Prop where
  env : EnvR G F H ρ σ
  fr : Same A.F0 F
  new : ∀ a o, F a = some o → A.F0 a = some o ∨ Nw A.H0 a o
  keep : ∀ a o, A.H0 a = some o → (∀ i, ¬ Ow A.as (A.vs.map some) i a) → H a = some o
  loc : ∀ i a, Ow ρ σ i a → Ow A.as (A.vs.map some) i a ∨ A.H0 a = none
  par : ∀ (i : Nat) (d : D), A.as[i]? = some (some (Sl.own d)) → (∃ d' : D, ρ[i]? = some (some (Sl.own d'))) ∧ σ[i]? = (A.vs.map some)[i]?
inductive Fl where
  | next
  | ret (r : Rv)
  | brk
  | cont
def RetR (G : Gx) (A : An) (F H : Hp) : Rv → V → Prop
  | .val d, v => R G F d v
  | .own d, v => ∃ a, v = .ref a ∧ F a = none ∧ A.H0 a = none ∧ OwnR G F H d a
  | .ref _, _ => False
def OkS (G : Gx) (A : An) (Dn : Ends) : Fl × EV → Prop := fun x => match x.1 with
  | .next => ∀ F' H' σ', StI G A F' H' x.2 σ' → Dn.nx σ' H'
  | .brk => ∀ F' H' σ', StI G A F' H' x.2 σ' → Dn.bk σ' H'
  | .cont => ∀ F' H' σ', StI G A F' H' x.2 σ' → Dn.ct σ' H'
  | .ret r => ∀ F' H' σ' v, StI G A F' H' x.2 σ' → RetR G A F' H' r v → Dn.rt v H'
def XS (G : Gx) (E : XK) (A : An) : Str → List (D × D) → EV → Prop := fun c fs ρ' => ∀ F' H' σ' cls dd, StI G A F' H' ρ' σ' → XR G F' H' c fs cls dd → E cls dd H'
def Ms (G : Gx) (E : XK) (np : Nat) (t : TS) (m : EV → Out (Fl × EV)) : Prop :=
  ∀ A F H ρ σ Dn, A.as.length = np → StI G A F H ρ σ → PostG (OkS G A Dn) (XS G E A) (m ρ) → t Dn σ H
def SS (X : Cx) (K : PySem.W.Frag) (cl : Str → Addr) (E : XK) (np : Nat) (s : Stmt) (t : TS) (m : EV → Out (Fl × EV)) : Prop := PS X s t ∧ Ms ⟨K, cl⟩ E np t m
def SB (X : Cx) (K : PySem.W.Frag) (cl : Str → Addr) (E : XK) (np : Nat) (s : List Stmt) (t : TS) (m : EV → Out (Fl × EV)) : Prop := PSs X s t ∧ Ms ⟨K, cl⟩ E np t m
def isOwn (ρ : EV) (i : Nat) : Bool := match ρ[i]? with
  | some (some (.own _)) => true
  | _ => false
def okSet (np i : Nat) (ρ : EV) : Bool := !(decide (i < np) && isOwn ρ i)
section
variable {G : Gx} {E : XK} {X : Cx} {K : PySem.W.Frag} {cl : Str → Addr} {A : An} {np : Nat} {ta tb tc : TE} {ma mb mc : EV → Out (Rv × EV)} {a b c e : Expr} {es : List Expr} {pos : Pos} {F H F' H' : Hp} {ρ ρ' : EV} {σ σ' : St}
theorem isOwn_iff {ρ : EV} {i : Nat} : isOwn ρ i = true ↔ ∃ d : D, ρ[i]? = some (some (Sl.own d)) := by
  unfold isOwn
  cases ρ[i]? with
  | none => simp
  | some x => cases x with
    | none => simp
    | some x => cases x <;> simp
theorem StI.nw (s : StI G A F H ρ σ) {a : Addr} {o : HO} (q : Nw H a o) : Nw A.H0 a o := by
  cases z : A.H0 a with
  | none => exact .inl z
  | some x =>
    by_cases w : ∃ i, Ow A.as (A.vs.map some) i a
    · obtain ⟨i, ⟨d, w1⟩, w2⟩ := w
      obtain ⟨⟨d', k1⟩, k2⟩ := s.par i d w1
      obtain ⟨y, hy⟩ := s.env.ownr (a := a) ⟨⟨d', k1⟩, by rw [k2]; exact w2⟩
      exact (q.own hy).elim
    · have k := s.keep a x z (fun i q => w ⟨i, q⟩)
      rcases q with q | ⟨xs, e, q⟩
      · rw [k] at q; cases q
      · exact .inr ⟨xs, e, z.trans (k.symm.trans q)⟩
theorem StI.stp (s : StI G A F H ρ σ) (t : Stp G F H ρ F' H' ρ' σ) : StI G A F' H' ρ' σ where
  env := t.env
  fr := s.fr.trans t.fr
  new := fun a o h => by
    rcases t.new a o h with q | q
    · exact s.new a o q
    · cases z : A.H0 a with
      | none => exact .inr (.inl z)
      | some x =>
        by_cases w : ∃ i, Ow A.as (A.vs.map some) i a
        · obtain ⟨i, ⟨d, w1⟩, w2⟩ := w
          obtain ⟨⟨d', k1⟩, k2⟩ := s.par i d w1
          obtain ⟨y, hy⟩ := s.env.ownr (a := a) ⟨⟨d', k1⟩, by rw [k2]; exact w2⟩
          exact (q.own hy).elim
        · have k := s.keep a x z (fun i q => w ⟨i, q⟩)
          rcases q with q | ⟨xs, e, q⟩
          · rw [k] at q; cases q
          · exact .inr (.inr ⟨xs, e, z.trans (k.symm.trans q)⟩)
  keep := fun a o h w => t.keep a o (s.keep a o h w) fun i q => by
    rcases s.loc i a q with k | k
    · exact w i k
    · rw [h] at k; cases k
  loc := fun i a q => s.loc i a ((t.ow i).mp q)
  par := fun i d q => by
    obtain ⟨⟨d', k1⟩, k2⟩ := s.par i d q
    rcases t.mode i with ⟨x, x', h1, h2⟩ | ⟨h1, h2⟩
    · exact ⟨⟨x', h2⟩, k2⟩
    · exact (h1 d' k1).elim
theorem StI.free (s : StI G A F H ρ σ) {a : Addr} (h : H a = none) : A.H0 a = none := by
  cases z : A.H0 a with
  | none => rfl
  | some x =>
    by_cases w : ∃ i, Ow A.as (A.vs.map some) i a
    · obtain ⟨i, ⟨d, w1⟩, w2⟩ := w
      obtain ⟨⟨d', k1⟩, k2⟩ := s.par i d w1
      obtain ⟨y, hy⟩ := s.env.there (a := a) ⟨⟨d', k1⟩, by rw [k2]; exact w2⟩
      rw [hy] at h; cases h
    · rw [s.keep a x z (fun i q => w ⟨i, q⟩)] at h; cases h
theorem StI.grow (s : StI G A F H ρ σ) (g : Grow F H F' H') : StI G A F' H' ρ σ := s.stp (g.stp s.env)
theorem xs_xc {c : Str} {fs : List (D × D)} {ρ' : EV} (s : StI G A F H ρ σ) (h : XS G E A c fs ρ') : XC G E F H σ ρ c fs ρ' := fun F' H' cls dd t x => h F' H' σ cls dd (s.stp t) x
/-! ### slots are set -/
theorem okSet_iff {i : Nat} : okSet np i ρ = true ↔ (i < np → ∀ d : D, ρ[i]? ≠ some (some (Sl.own d))) := by
  unfold okSet
  by_cases h : i < np
  · cases q : isOwn ρ i with
    | false => simp only [h, decide_true, Bool.and_false, Bool.not_false, true_implies, true_iff]; exact fun d z => by rw [isOwn_iff.mpr ⟨d, z⟩] at q; cases q
    | true => obtain ⟨d, z⟩ := isOwn_iff.mp q; simp [h]; exact ⟨d, z⟩
  · simp [h]
theorem get_set {α : Type} (l : List α) (i j : Nat) (x : α) : (l.set i x)[j]? = if i = j then (if i < l.length then some x else none) else l[j]? := by
  rw [List.getElem?_set]
theorem EnvR.setVal {i : Nat} {d : D} {v : V} (e : EnvR G F H ρ σ) (r : R G F d v) : EnvR G F H (ρ.set i (some (.val d))) (σ.set i (some v)) := by
  have key : ∀ (j : Nat) (x : D), (ρ.set i (some (.val d)))[j]? = some (some (Sl.own x)) → i ≠ j ∧ ρ[j]? = some (some (Sl.own x)) := by
    intro j x q
    rw [get_set] at q
    by_cases z : i = j
    · rw [if_pos z] at q
      by_cases y : i < ρ.length
      · rw [if_pos y] at q; injection q with q; cases q
      · rw [if_neg y] at q; cases q
    · rw [if_neg z] at q; exact ⟨z, q⟩
  refine ⟨e.same, by simp [e.len], ?_, ?_, ?_⟩
  · intro j x q
    rw [get_set] at q ⊢
    by_cases z : i = j
    · rw [if_pos z] at q ⊢
      by_cases y : i < ρ.length
      · rw [if_pos y] at q
        rw [if_pos (by rw [← e.len]; exact y)]
        injection q with q; injection q with q; injection q with q
        subst q
        exact ⟨v, rfl, r⟩
      · rw [if_neg y] at q; cases q
    · rw [if_neg z] at q ⊢; exact e.val j x q
  · intro j x q
    obtain ⟨z, q⟩ := key j x q
    rw [get_set, if_neg z]
    exact e.own j x q
  · rintro j k b ⟨⟨x, q1⟩, q2⟩ ⟨⟨y, q3⟩, q4⟩
    obtain ⟨z1, q1⟩ := key j x q1
    obtain ⟨z2, q3⟩ := key k y q3
    rw [get_set, if_neg z1] at q2
    rw [get_set, if_neg z2] at q4
    exact e.ne j k b ⟨⟨x, q1⟩, q2⟩ ⟨⟨y, q3⟩, q4⟩
theorem EnvR.setOwn {i : Nat} {d : D} {a : Addr} (e : EnvR G F H ρ σ) (f : F a = none) (o : OwnR G F H d a) (n : ∀ j, ¬ Ow ρ σ j a) : EnvR G F H (ρ.set i (some (.own d))) (σ.set i (some (.ref a))) := by
  have key : ∀ (j : Nat) (b : Addr), Ow (ρ.set i (some (.own d))) (σ.set i (some (.ref a))) j b → (i = j ∧ b = a) ∨ (i ≠ j ∧ Ow ρ σ j b) := by
    rintro j b ⟨⟨x, q1⟩, q2⟩
    rw [get_set] at q1 q2
    by_cases z : i = j
    · rw [if_pos z] at q2
      by_cases y : i < σ.length
      · rw [if_pos y] at q2
        injection q2 with q2; injection q2 with q2; injection q2 with q2
        exact .inl ⟨z, q2.symm⟩
      · rw [if_neg y] at q2; cases q2
    · rw [if_neg z] at q1 q2
      exact .inr ⟨z, ⟨x, q1⟩, q2⟩
  refine ⟨e.same, by simp [e.len], ?_, ?_, ?_⟩
  · intro j x q
    rw [get_set] at q ⊢
    by_cases z : i = j
    · rw [if_pos z] at q
      by_cases y : i < ρ.length
      · rw [if_pos y] at q; injection q with q; cases q
      · rw [if_neg y] at q; cases q
    · rw [if_neg z] at q ⊢; exact e.val j x q
  · intro j x q
    rw [get_set] at q ⊢
    by_cases z : i = j
    · rw [if_pos z] at q ⊢
      by_cases y : i < ρ.length
      · rw [if_pos y] at q
        rw [if_pos (by rw [← e.len]; exact y)]
        injection q with q; injection q with q; injection q with q
        subst q
        exact ⟨a, rfl, f, o⟩
      · rw [if_neg y] at q; cases q
    · rw [if_neg z] at q ⊢; exact e.own j x q
  · intro j k b h1 h2
    rcases key j b h1 with ⟨z1, y1⟩ | ⟨z1, y1⟩
    · rcases key k b h2 with ⟨z2, y2⟩ | ⟨z2, y2⟩
      · exact z1.symm.trans z2
      · subst y1; exact (n k y2).elim
    · rcases key k b h2 with ⟨z2, y2⟩ | ⟨z2, y2⟩
      · subst y2; exact (n j y1).elim
      · exact e.ne j k b y1 y2
theorem StI.setVal {i : Nat} {d : D} {v : V} (hn : A.as.length = np) (s : StI G A F H ρ σ) (ok : okSet np i ρ = true) (r : R G F d v) : StI G A F H (ρ.set i (some (.val d))) (σ.set i (some v)) where
  env := s.env.setVal r
  fr := s.fr
  new := s.new
  keep := s.keep
  loc := by
    rintro j b ⟨⟨x, q1⟩, q2⟩
    rw [get_set] at q1 q2
    by_cases z : i = j
    · rw [if_pos z] at q1
      by_cases y : i < ρ.length
      · rw [if_pos y] at q1; injection q1 with q1; cases q1
      · rw [if_neg y] at q1; cases q1
    · rw [if_neg z] at q1 q2
      exact s.loc j b ⟨⟨x, q1⟩, q2⟩
  par := by
    intro j x q
    obtain ⟨⟨d', k1⟩, k2⟩ := s.par j x q
    have z : i ≠ j := fun z => okSet_iff.mp ok (by
      rw [z, ← hn]
      exact (List.getElem?_eq_some_iff.mp q).1) d' (z ▸ k1)
    exact ⟨⟨d', by rw [get_set, if_neg z]; exact k1⟩, by rw [get_set, if_neg z]; exact k2⟩
theorem StI.setOwn {i : Nat} {d : D} {a : Addr} (hn : A.as.length = np) (s : StI G A F H ρ σ) (ok : okSet np i ρ = true) (f : F a = none) (o : OwnR G F H d a) (n : ∀ j, ¬ Ow ρ σ j a) (h0 : A.H0 a = none) : StI G A F H (ρ.set i (some (.own d))) (σ.set i (some (.ref a))) where
  env := s.env.setOwn f o n
  fr := s.fr
  new := s.new
  keep := s.keep
  loc := by
    rintro j b ⟨⟨x, q1⟩, q2⟩
    rw [get_set] at q1 q2
    by_cases z : i = j
    · rw [if_pos z] at q2
      by_cases y : i < σ.length
      · rw [if_pos y] at q2
        injection q2 with q2; injection q2 with q2; injection q2 with q2
        subst q2
        exact .inr h0
      · rw [if_neg y] at q2; cases q2
    · rw [if_neg z] at q1 q2
      exact s.loc j b ⟨⟨x, q1⟩, q2⟩
  par := by
    intro j x q
    obtain ⟨⟨d', k1⟩, k2⟩ := s.par j x q
    have z : i ≠ j := fun z => okSet_iff.mp ok (by
      rw [z, ← hn]
      exact (List.getElem?_eq_some_iff.mp q).1) d' (z ▸ k1)
    exact ⟨⟨d', by rw [get_set, if_neg z]; exact k1⟩, by rw [get_set, if_neg z]; exact k2⟩
/-! ### small statements and blocks -/
def sNext : EV → Out (Fl × EV) := fun ρ => .ok (.next, ρ)
def sSeq (a b : EV → Out (Fl × EV)) : EV → Out (Fl × EV) := fun ρ => (a ρ).bind fun x => match x.1 with
  | .next => b x.2
  | f => .ok (f, x.2)
def sIf (c : EV → Out (Bool × EV)) (a b : EV → Out (Fl × EV)) : EV → Out (Fl × EV) := fun ρ => (c ρ).bind fun x => if x.1 = true then a x.2 else b x.2
def sRet (np : Nat) (m : EV → Out (Rv × EV)) : EV → Out (Fl × EV) := fun ρ => (m ρ).bind fun x => match x.1 with
  | .ref i => if i < np then .bad else match x.2[i]? with
    | some (some (.own d)) => .ok (.ret (.own d), x.2)
    | _ => .bad
  | r => .ok (.ret r, x.2)
def sExpr (m : EV → Out (Rv × EV)) : EV → Out (Fl × EV) := fun ρ => (m ρ).bind fun x => .ok (.next, x.2)
variable {t u : TS} {m n : EV → Out (Fl × EV)} {st : Stmt} {rest : List Stmt}
theorem ms_seq (h1 : Ms G E np t m) (h2 : Ms G E np u n) : Ms G E np (tSeq t u) (sSeq m n) := fun A F H ρ σ Dn hn s p => by
  refine h1 A F H ρ σ _ hn s ?_
  unfold sSeq at p
  rw [post_bind] at p
  refine PostG.imp p (fun x q => ?_) fun _ _ _ q => q
  revert q
  obtain ⟨f, ρ1⟩ := x
  cases f with
  | next => exact fun q F' H' σ' s' => h2 A F' H' ρ1 σ' Dn hn s' q
  | ret r => exact id
  | brk => exact id
  | cont => exact id
theorem sb_nil : SB X K cl E np [] tNext sNext := ⟨pss_nil, fun A F H ρ σ Dn hn s p => p F H σ s⟩
theorem sb_cons (h : SS X K cl E np st t m) (k : SB X K cl E np rest u n) : SB X K cl E np (st :: rest) (tSeq t u) (sSeq m n) := ⟨pss_cons h.1 k.1, ms_seq h.2 k.2⟩
theorem sb_one (h : SS X K cl E np st t m) : SB X K cl E np [st] t m := ⟨pss_one h.1, h.2⟩
def sBrk : EV → Out (Fl × EV) := fun ρ => .ok (.brk, ρ)
def sCont : EV → Out (Fl × EV) := fun ρ => .ok (.cont, ρ)
def sBad : EV → Out (Fl × EV) := fun _ => .bad
theorem Md.thenS (ha : Md G E ta ma) {Q : VK} {β : Type} {okc : β → Prop} {k : Rv × EV → Out β} (s : StI G A F H ρ σ) (p : PostG okc (XS G E A) ((ma ρ).bind k))
    (h : ∀ F1 H1 ρ1 r v, StI G A F1 H1 ρ1 σ → Stp G F H ρ F1 H1 ρ1 σ → ResR G H F1 H1 ρ1 σ r v → PostG okc (XS G E A) (k (r, ρ1)) → Q v H1) : ta σ H Q := by
  refine ha F H ρ σ Q s.env ?_
  rw [post_bind] at p
  revert p
  cases ma ρ with
  | bad => exact fun p => p
  | ex c f ρ' => exact fun p => xs_xc s p
  | ok x => exact fun p F1 H1 v t r => h F1 H1 x.2 x.1 v (s.stp t) t r p
theorem MdT.thenS {tt : TT} {na : EV → Out (Bool × EV)} (ha : MdT G E tt na) {Q : Bool → Hp → Prop} {β : Type} {okc : β → Prop} {k : Bool × EV → Out β} (s : StI G A F H ρ σ) (p : PostG okc (XS G E A) ((na ρ).bind k))
    (h : ∀ F1 H1 ρ1 r, StI G A F1 H1 ρ1 σ → PostG okc (XS G E A) (k (r, ρ1)) → Q r H1) : tt σ H Q := by
  refine ha F H ρ σ Q s.env ?_
  rw [post_bind] at p
  revert p
  cases na ρ with
  | bad => exact fun p => p
  | ex c f ρ' => exact fun p => xs_xc s p
  | ok x => exact fun p F1 H1 t => h F1 H1 x.2 x.1 (s.stp t) p
theorem ms_if {tt : TT} {na : EV → Out (Bool × EV)} (hc : MdT G E tt na) (h1 : Ms G E np t m) (h2 : Ms G E np u n) : Ms G E np (tIfS tt t u) (sIf na m n) := fun A F H ρ σ Dn hn s p => by
  refine hc.thenS s p fun F1 H1 ρ1 k s1 p1 => ?_
  cases k with
  | true => exact iteT (h1 A F1 H1 ρ1 σ Dn hn s1 p1)
  | false => exact iteF (h2 A F1 H1 ρ1 σ Dn hn s1 p1)
theorem ss_if {c : Expr} {x y : List Stmt} {na : EV → Out (Bool × EV)} {tt : TT} (hc : SQ X K cl E c tt na) (h : SB X K cl E np x t m) (k : SB X K cl E np y u n) : SS X K cl E np (.If c x y pos) (tIfS tt t u) (sIf na m n) :=
  ⟨ps_if hc.1 h.1 k.1, ms_if hc.2 h.2 k.2⟩
theorem ss_ret (h : SE X K cl E e ta ma) : SS X K cl E np (.Return (some e) pos) (tRet ta) (sRet np ma) := by
  obtain ⟨h1, h2⟩ := h
  refine ⟨ps_ret h1, fun A F H ρ σ Dn hn s p => ?_⟩
  refine h2.thenS s p fun F1 H1 ρ1 r v s1 t1 rr p1 => ?_
  cases r with
  | val d => exact p1 F1 H1 σ v s1 rr
  | own d => obtain ⟨a, k1, k2, k3, k4⟩ := rr; exact p1 F1 H1 σ v s1 ⟨a, k1, k2, s.free k3, k4⟩
  | ref i =>
    obtain ⟨k1, d, k2⟩ := rr
    dsimp only at p1
    by_cases hi : i < np
    · rw [if_pos hi] at p1; exact p1.elim
    · rw [if_neg hi] at p1
      simp only [k2] at p1
      obtain ⟨a, z1, z2, z3⟩ := s1.env.own i d k2
      rw [k1] at z1
      injection z1 with z1; injection z1 with z1
      subst z1
      refine p1 F1 H1 σ _ s1 ⟨a, rfl, z2, ?_, z3⟩
      rcases s1.loc i a ⟨⟨d, k2⟩, k1⟩ with ⟨⟨x, w1⟩, w2⟩ | w
      · exact (hi (hn ▸ (List.getElem?_eq_some_iff.mp w1).1)).elim
      · exact w
theorem ss_expr (h : SE X K cl E e ta ma) (hs : swapsWith e none pos.line X.env = pure false := by rfl) : SS X K cl E np (.Expr e pos) (tDrop ta) (sExpr ma) := by
  obtain ⟨h1, h2⟩ := h
  refine ⟨ps_expr h1 hs, fun A F H ρ σ Dn hn s p => ?_⟩
  exact h2.thenS s p fun F1 H1 ρ1 r v s1 t1 rr p1 => p1 F1 H1 σ s1
/-! ### name = e -/
def sSetV (np i : Nat) (m : EV → Out (Rv × EV)) : EV → Out (Fl × EV) := fun ρ => (fzO (m ρ)).bind fun x => match x.1 with
  | .val d => if okSet np i x.2 = true then .ok (.next, x.2.set i (some (.val d))) else .bad
  | _ => .bad
def sSetO (np i : Nat) (m : EV → Out (Rv × EV)) : EV → Out (Fl × EV) := fun ρ => (m ρ).bind fun x => match x.1 with
  | .own d => if okSet np i x.2 = true then .ok (.next, x.2.set i (some (.own d))) else .bad
  | _ => .bad
theorem ms_setV {i : Nat} (h : Md G E ta ma) : Ms G E np (tAsg ta (gName i)) (sSetV np i ma) := fun A F H ρ σ Dn hn s p => by
  refine h.fz.thenS s p fun F1 H1 ρ1 r v s1 t1 rr p1 => ?_
  cases r with
  | own d => exact p1.elim
  | ref i => exact p1.elim
  | val d =>
    dsimp only at p1
    by_cases ok : okSet np i ρ1 = true
    · rw [if_pos ok] at p1; exact p1 F1 H1 _ (s1.setVal hn ok rr)
    · rw [if_neg ok] at p1; exact p1.elim
theorem ms_setO {i : Nat} (h : Md G E ta ma) : Ms G E np (tAsg ta (gName i)) (sSetO np i ma) := fun A F H ρ σ Dn hn s p => by
  refine h.thenS s p fun F1 H1 ρ1 r v s1 t1 rr p1 => ?_
  cases r with
  | val d => exact p1.elim
  | ref i => exact p1.elim
  | own d =>
    dsimp only at p1
    by_cases ok : okSet np i ρ1 = true
    · rw [if_pos ok] at p1
      obtain ⟨a, k1, k2, k3, k4⟩ := rr
      subst k1
      refine p1 F1 H1 _ (s1.setOwn hn ok k2 k4 (fun j w => ?_) (s.free k3))
      obtain ⟨y, hy⟩ := s.env.there ((t1.ow j).mp w)
      rw [k3] at hy; cases hy
    · rw [if_neg ok] at p1; exact p1.elim
theorem ss_setV (i : Nat) {x : Str} {pos' : Pos} (hN : X.N.Nodup) (h : SE X K cl E e ta ma) (hi : X.N[i]? = some x := by rfl) (hx : Loc X.env.scope x := by first | exact Or.inl rfl | exact Or.inr rfl) (hs : swapsWith e (some (.Name x pos')) pos.line X.env = pure false := by rfl) (hf : X.fn x = true ∨ X.env.scope.names.lookup x = some .local := by first | exact .inl rfl | exact .inr rfl | assumption) :
    SS X K cl E np (.Assign [.Name x pos'] e pos) (tAsg ta (gName i)) (sSetV np i ma) := ⟨ps_set hN hi hx h.1 hs hf, ms_setV h.2⟩
theorem ss_setO (i : Nat) {x : Str} {pos' : Pos} (hN : X.N.Nodup) (h : SE X K cl E e ta ma) (hi : X.N[i]? = some x := by rfl) (hx : Loc X.env.scope x := by first | exact Or.inl rfl | exact Or.inr rfl) (hs : swapsWith e (some (.Name x pos')) pos.line X.env = pure false := by rfl) (hf : X.fn x = true ∨ X.env.scope.names.lookup x = some .local := by first | exact .inl rfl | exact .inr rfl | assumption) :
    SS X K cl E np (.Assign [.Name x pos'] e pos) (tAsg ta (gName i)) (sSetO np i ma) := ⟨ps_set hN hi hx h.1 hs hf, ms_setO h.2⟩
/-- a slot is frozen: no code -/
def frzE (i : Nat) (ρ : EV) : EV := match ρ[i]? with
  | some (some (.own d)) => ρ.set i (some (.val d))
  | _ => ρ
def sFrz (np i : Nat) (m : EV → Out (Fl × EV)) : EV → Out (Fl × EV) := fun ρ => if okSet np i ρ = true then m (frzE i ρ) else .bad
theorem ms_frz (i : Nat) (h : Ms G E np t m) : Ms G E np t (sFrz np i m) := fun A F H ρ σ Dn hn s p => by
  unfold sFrz at p
  by_cases ok : okSet np i ρ = true
  · rw [if_pos ok] at p
    unfold frzE at p
    cases q : ρ[i]? with
    | none => rw [q] at p; exact h A F H ρ σ Dn hn s p
    | some x =>
      cases x with
      | none => rw [q] at p; exact h A F H ρ σ Dn hn s p
      | some x =>
        cases x with
        | val d => rw [q] at p; exact h A F H ρ σ Dn hn s p
        | own d =>
          rw [q] at p
          obtain ⟨a, k1, k2, k3⟩ := s.env.own i d q
          obtain ⟨o, k4, k5⟩ := k3.frozen k2
          have hne : i < np → False := fun z => okSet_iff.mp ok z d q
          have h0 : A.H0 a = none := by
            rcases s.loc i a ⟨⟨d, q⟩, k1⟩ with ⟨⟨x, w1⟩, w2⟩ | w
            · exact (hne (hn ▸ (List.getElem?_eq_some_iff.mp w1).1)).elim
            · exact w
          have hi : i < ρ.length := (List.getElem?_eq_some_iff.mp q).1
          have hs : σ.set i (some (.ref a)) = σ := by
            apply List.ext_getElem?
            intro j
            rw [get_set]
            by_cases z : i = j
            · rw [if_pos z, if_pos (by rw [← s.env.len]; exact hi), ← z, k1]
            · rw [if_neg z]
          -- first forget the slot, then freeze, then set it
          have e1 : EnvR G F H (ρ.set i none) σ := by
            have key : ∀ (j : Nat) (x : Sl), (ρ.set i none)[j]? = some (some x) → i ≠ j ∧ ρ[j]? = some (some x) := by
              intro j x y
              rw [get_set] at y
              by_cases z : i = j
              · rw [if_pos z, if_pos hi] at y; injection y with y; cases y
              · rw [if_neg z] at y; exact ⟨z, y⟩
            refine ⟨s.env.same, by simp [s.env.len], fun j x y => s.env.val j x (key j _ y).2, fun j x y => s.env.own j x (key j _ y).2, ?_⟩
            rintro j k b ⟨⟨x, q1⟩, q2⟩ ⟨⟨y, q3⟩, q4⟩
            exact s.env.ne j k b ⟨⟨x, (key j _ q1).2⟩, q2⟩ ⟨⟨y, (key k _ q3).2⟩, q4⟩
          have e2 : EnvR G (upd F a o) H (ρ.set i none) σ := e1.freeze k4 k2 (by
            rintro j ⟨⟨x, q1⟩, q2⟩
            rw [get_set] at q1
            by_cases z : i = j
            · rw [if_pos z, if_pos hi] at q1; injection q1 with q1; cases q1
            · rw [if_neg z] at q1; exact z (s.env.ne i j a ⟨⟨d, q⟩, k1⟩ ⟨⟨x, q1⟩, q2⟩))
          have e3 := e2.setVal (i := i) k5
          rw [hs, List.set_set] at e3
          refine h A (upd F a o) H _ σ Dn hn ⟨e3, s.fr.trans (same_upd k2), ?_, s.keep, ?_, ?_⟩ p
          · intro b y z
            by_cases w : b = a
            · subst w; exact .inr (.inl h0)
            · rw [upd_ne w] at z; exact s.new b y z
          · rintro j b ⟨⟨x, q1⟩, q2⟩
            rw [get_set] at q1
            by_cases z : i = j
            · rw [if_pos z, if_pos hi] at q1; injection q1 with q1; cases q1
            · rw [if_neg z] at q1; exact s.loc j b ⟨⟨x, q1⟩, q2⟩
          · intro j x y
            obtain ⟨⟨d', w1⟩, w2⟩ := s.par j x y
            have z : i ≠ j := fun z => hne (by
              rw [z, ← hn]
              exact (List.getElem?_eq_some_iff.mp y).1)
            exact ⟨⟨d', by rw [get_set, if_neg z]; exact w1⟩, w2⟩
  · rw [if_neg ok] at p; exact p.elim
theorem ss_frz (i : Nat) (h : SS X K cl E np st t m) : SS X K cl E np st t (sFrz np i m) := ⟨h.1, ms_frz i h.2⟩
end
end Fr
namespace Fr
open PySem L2
/-! ### targets -/
/-- slots set to frozen data, one after another, at the places vs -/
inductive Sets (G : Gx) (F : Hp) (np : Nat) (vs : List Nat) (ρ : EV) (σ : St) : EV → St → Prop
  | refl : Sets G F np vs ρ σ ρ σ
  | set {ρ' : EV} {σ' : St} {i : Nat} {d : D} {v : V} : Sets G F np vs ρ σ ρ' σ' → okSet np i ρ' = true → i ∈ vs → R G F d v → Sets G F np vs ρ σ (ρ'.set i (some (.val d))) (σ'.set i (some v))
abbrev Tgm := D → EV → Option EV
def MdG (G : Gx) (np : Nat) (vs : List Nat) (g : TG) (mg : Tgm) : Prop :=
  ∀ F H ρ0 σ0 ρ σ d v Q, Same F H → Sets G F np vs ρ0 σ0 ρ σ → R G F d v → (∃ ρ', mg d ρ = some ρ' ∧ ∀ σ', Sets G F np vs ρ0 σ0 ρ' σ' → Q σ' H) → g v σ H Q
def MdGs (G : Gx) (np : Nat) (vs : List Nat) (g : TGs) (mg : List D → EV → Option EV) : Prop :=
  ∀ F H ρ0 σ0 ρ σ ds ws Q, Same F H → Sets G F np vs ρ0 σ0 ρ σ → Rs G F ds ws → (∃ ρ', mg ds ρ = some ρ' ∧ ∀ σ', Sets G F np vs ρ0 σ0 ρ' σ' → Q σ' H) → g ws σ H Q
def SG (X : Cx) (K : PySem.W.Frag) (cl : Str → Addr) (np : Nat) (vs : List Nat) (tg : Expr) (g : TG) (mg : Tgm) : Prop := PG X tg g ∧ MdG ⟨K, cl⟩ np vs g mg
def SGs (X : Cx) (K : PySem.W.Frag) (cl : Str → Addr) (np : Nat) (vs : List Nat) (tg : List Expr) (g : TGs) (mg : List D → EV → Option EV) : Prop := PGs X tg g ∧ MdGs ⟨K, cl⟩ np vs g mg
def gN (np i : Nat) : Tgm := fun d ρ => if okSet np i ρ = true then some (ρ.set i (some (.val d))) else none
def gsNil : List D → EV → Option EV := fun ds ρ => match ds with
  | [] => some ρ
  | _ => none
def gsCons (g : Tgm) (r : List D → EV → Option EV) : List D → EV → Option EV := fun ds ρ => match ds with
  | d :: ds => (g d ρ).bind fun ρ1 => r ds ρ1
  | [] => none
def gT (n : Nat) (gs : List D → EV → Option EV) : Tgm := fun d ρ => match d with
  | .tuple ds => if ds.length = n then gs ds ρ else none
  | _ => none
section
variable {G : Gx} {E : XK} {X : Cx} {K : PySem.W.Frag} {cl : Str → Addr} {A : An} {np : Nat} {vs : List Nat} {ta tb tc : TE} {ma mb mc : EV → Out (Rv × EV)} {a b c e : Expr} {es : List Expr} {pos : Pos} {F H F' H' : Hp} {ρ ρ' : EV} {σ σ' : St}
theorem sg_name (i : Nat) {x : Str} (hN : X.N.Nodup) (hv : i ∈ vs) (hi : X.N[i]? = some x := by rfl) (hx : Loc X.env.scope x := by first | exact Or.inl rfl | exact Or.inr rfl) (hf : X.fn x = true ∨ X.env.scope.names.lookup x = some .local := by first | exact .inl rfl | exact .inr rfl | assumption) : SG X K cl np vs (.Name x pos) (gName i) (gN np i) :=
  ⟨pg_name hN hi hx hf, fun F H ρ0 σ0 ρ σ d v Q hs s r ⟨ρ', h1, h2⟩ => by
    unfold gN at h1
    by_cases ok : okSet np i ρ = true
    · rw [if_pos ok] at h1; injection h1 with h1; subst h1; exact h2 _ (.set s ok hv r)
    · rw [if_neg ok] at h1; cases h1⟩
theorem sgs_nil : SGs X K cl np vs [] gNil gsNil := ⟨pgs_nil, fun F H ρ0 σ0 ρ σ ds ws Q hs s r ⟨ρ', h1, h2⟩ => by
  cases r with
  | nil => simp only [gsNil] at h1; injection h1 with h1; subst h1; exact ⟨rfl, h2 σ s⟩
  | cons _ _ => simp only [gsNil] at h1; cases h1⟩
theorem sgs_cons {tg : Expr} {tgs : List Expr} {g : TG} {gs : TGs} {m : Tgm} {ms : List D → EV → Option EV} (h : SG X K cl np vs tg g m) (k : SGs X K cl np vs tgs gs ms) (hs : (assignEach (tg :: tgs) X.env).map (·.2) = assign tg X.env :: (assignEach tgs X.env).map (·.2) := by rfl) : SGs X K cl np vs (tg :: tgs) (gCons g gs) (gsCons m ms) :=
  ⟨pgs_cons h.1 k.1 hs, fun F H ρ0 σ0 ρ σ ds ws Q hs s r ⟨ρ', h1, h2⟩ => by
    cases r with
    | nil => cases h1
    | @cons d v ds vs' r1 r2 =>
      simp only [gsCons] at h1
      cases q : m d ρ with
      | none => rw [q] at h1; cases h1
      | some ρ1 =>
        rw [q] at h1
        refine ⟨v, _, rfl, h.2 F H ρ0 σ0 ρ σ d v _ hs s r1 ⟨ρ1, q, fun σ1 s1 => ?_⟩⟩
        exact k.2 F H ρ0 σ0 ρ1 σ1 ds _ Q hs s1 r2 ⟨ρ', h1, h2⟩⟩
theorem sg_tup {tgs : List Expr} {k n kk : Nat} {gs : TGs} {ms : List D → EV → Option EV} (C : Cw X K E kk) (h : SGs X K cl np vs tgs gs ms) (hn : (assignEach tgs X.env).length = n := by rfl) (hst : (assignEach tgs X.env).findIdx? (·.1) = none := by rfl) : SG X K cl np vs (.Tuple tgs k pos) (gTup K n gs) (gT n ms) :=
  ⟨by rw [← C.kq]; exact pg_tup C.calm h.1 hn hst, fun F H ρ0 σ0 ρ σ d v Q hs s r ⟨ρ', h1, h2⟩ => by
    cases r with
    | tup q r =>
      simp only [gT] at h1
      split at h1
      · rename_i hl
        exact ⟨_, _, rfl, sqT_same hs q.sq, r.length.trans hl, h.2 F H ρ0 σ0 ρ σ _ _ Q hs s r ⟨ρ', h1, h2⟩⟩
      · cases h1
    | _ => cases h1⟩
theorem Sets.sti (hn : A.as.length = np) (s : StI G A F H ρ σ) (h : Sets G F np vs ρ σ ρ' σ') : StI G A F H ρ' σ' := by
  induction h with
  | refl => exact s
  | set _ ok _ r ih => exact ih.setVal hn ok r
theorem Sets.env (e : EnvR G F H ρ σ) (h : Sets G F np vs ρ σ ρ' σ') : EnvR G F H ρ' σ' := by
  induction h with
  | refl => exact e
  | set _ ok _ r ih => exact ih.setVal r
theorem wipe_set {σ : St} {i : Nat} {x : Option V} : ∀ {vs : List Nat}, i ∈ vs → wipe (σ.set i x) vs = wipe σ vs
  | v :: vs, h => by
    simp only [wipe]
    by_cases z : i ∈ vs
    · rw [wipe_set z]
    · have : i = v := by
        rcases List.mem_cons.mp h with q | q
        · exact q
        · exact (z q).elim
      subst this
      clear h
      have key : ∀ ws : List Nat, i ∉ ws → wipe (σ.set i x) ws = (wipe σ ws).set i x := by
        intro ws
        induction ws with
        | nil => intro _; rfl
        | cons w ws ih =>
          intro q
          simp only [wipe]
          rw [ih (fun y => q (List.mem_cons_of_mem _ y)), List.set_comm]
          exact fun y => q (y ▸ List.mem_cons_self)
      rw [key vs z, List.set_set]
theorem Sets.wipe (h : Sets G F np vs ρ σ ρ' σ') : wipe σ' vs = wipe σ vs := by
  induction h with
  | refl => rfl
  | set _ ok hv r ih => rw [wipe_set hv]; exact ih
/-! ### what is walked -/
def ItR (G : Gx) (F : Hp) (J : It) (ds : List D) : Prop := ∀ F2 H2, Same F F2 → Same F2 H2 →
  (∀ (i : Nat) (d : D), ds[i]? = some d → J.go i H2 ∧ ∀ x H3, J.yld i H2 x H3 → ∃ F3, Grow F2 H2 F3 H3 ∧ R G F3 d x) ∧ ∀ i, ds.length ≤ i → J.stop i H2
def OkI (G : Gx) (F H : Hp) (σ : St) (ρ : EV) (Q : It → Hp → Prop) : List D × EV → Prop := fun x => ∀ F' H' J, Stp G F H ρ F' H' x.2 σ → ItR G F' J x.1 → Q J H'
def MdI (G : Gx) (E : XK) (wi : TI) (m : EV → Out (List D × EV)) : Prop :=
  ∀ F H ρ σ Q, EnvR G F H ρ σ → PostG (OkI G F H σ ρ Q) (XC G E F H σ ρ) (m ρ) → wi σ H Q
def SI (X : Cx) (K : PySem.W.Frag) (cl : Str → Addr) (E : XK) (tg iter : Expr) (wi : TI) (m : EV → Out (List D × EV)) : Prop := PI X tg iter wi ∧ MdI ⟨K, cl⟩ E wi m
theorem ItR.mono {J : It} {ds : List D} (s : Same F F') (h : ItR G F J ds) : ItR G F' J ds := fun F2 H2 a b => h F2 H2 (s.trans a) b
theorem itR_list {a : Addr} {xs : List V} {ds : List D} (h : F a = some (.lst xs)) (r : Rs G F ds xs) : ItR G F (Itl G.K a) ds := fun F2 H2 s1 s2 => by
  have q : SqL G.K H2 a xs := .of (s2 _ _ (s1 _ _ h))
  refine ⟨fun i d hd => ?_, fun i hi => ⟨xs, q, by rw [r.length]; exact hi⟩⟩
  obtain ⟨v, h1, h2⟩ := r.getD hd
  refine ⟨⟨xs, v, q, h1⟩, ?_⟩
  rintro x H3 ⟨rfl, hx⟩
  have := hx xs q
  rw [h1] at this
  injection this with this
  subst this
  exact ⟨F2, .refl s2, h2.mono s1⟩
theorem itR_tup {a : Addr} {xs : List V} {ds : List D} (h : SqT G.K F a xs) (r : Rs G F ds xs) : ItR G F (Itt G.K a) ds := fun F2 H2 s1 s2 => by
  have q : SqT G.K H2 a xs := sqT_same s2 (sqT_same s1 h)
  refine ⟨fun i d hd => ?_, fun i hi => ⟨xs, q, by rw [r.length]; exact hi⟩⟩
  obtain ⟨v, h1, h2⟩ := r.getD hd
  refine ⟨⟨xs, v, q, h1⟩, ?_⟩
  rintro x H3 ⟨rfl, hx⟩
  have := hx xs q
  rw [h1] at this
  injection this with this
  subst this
  exact ⟨F2, .refl s2, h2.mono s1⟩
def rngD (lo : Int) (n : Nat) : List D := (List.range n).map fun (i : Nat) => .int (lo + (i : Int))
theorem itR_rng {lo : Int} {n : Nat} : ItR G F (Itr lo n) (rngD lo n) := fun F2 H2 s1 s2 => by
  refine ⟨fun i d hd => ?_, fun i hi => by have q := hi; simp [rngD] at q; exact q⟩
  have hl : i < n := by
    have := (List.getElem?_eq_some_iff.mp hd).1
    simpa [rngD] using this
  refine ⟨hl, ?_⟩
  rintro x H3 ⟨rfl, rfl⟩
  have : d = .int (lo + i) := by simp [rngD, List.getElem?_range hl] at hd; exact hd.symm
  subst this
  exact ⟨F2, .refl s2, .int _⟩
/-- over a list (frozen) -/
def iL (m : EV → Out (Rv × EV)) : EV → Out (List D × EV) := fun ρ => (fzO (m ρ)).bind fun x => match x.1 with
  | .val (.list ds) => .ok (ds, x.2)
  | _ => .bad
def iT (m : EV → Out (Rv × EV)) : EV → Out (List D × EV) := fun ρ => (fzO (m ρ)).bind fun x => match x.1 with
  | .val (.tuple ds) => .ok (ds, x.2)
  | _ => .bad
theorem si_list {tg : Expr} {kk : Nat} (C : Cw X K E kk) (h : SE X K cl E e ta ma) : SI X K cl E tg e (iList K ta) (iL ma) := ⟨by rw [← C.kq]; exact pi_list h.1, fun F H ρ σ Q en p => by
  refine h.2.then en p fun F1 H1 ρ1 r v s hr rr p1 => ?_
  cases r with
  | own d => exact p1.elim
  | ref i => exact p1.elim
  | val d =>
    cases d with
    | list ds =>
      cases (show R _ F1 (.list ds) v from rr) with
      | lst q r => exact ⟨_, rfl, ⟨_, .of (s.env.same _ _ q)⟩, p1 F1 H1 _ s (itR_list q r)⟩
    | _ => exact p1.elim⟩
theorem si_tup {tg : Expr} {kk : Nat} (C : Cw X K E kk) (h : SE X K cl E e ta ma) : SI X K cl E tg e (iTup K ta) (iT ma) := ⟨by rw [← C.kq]; exact pi_tup h.1, fun F H ρ σ Q en p => by
  refine h.2.then en p fun F1 H1 ρ1 r v s hr rr p1 => ?_
  cases r with
  | own d => exact p1.elim
  | ref i => exact p1.elim
  | val d =>
    cases d with
    | tuple ds =>
      cases (show R _ F1 (.tuple ds) v from rr) with
      | tup q r => exact ⟨_, rfl, ⟨_, sqT_same s.env.same q.sq⟩, p1 F1 H1 _ s (itR_tup q.sq r)⟩
    | _ => exact p1.elim⟩
def iR1 (m : EV → Out (List Rv × EV)) : EV → Out (List D × EV) := fun ρ => (m ρ).bind fun x => match x.1 with
  | [.val (.int j)] => if -(2 ^ 62) ≤ j ∧ j < 2 ^ 62 then .ok (rngD 0 j.toNat, x.2) else .bad
  | _ => .bad
theorem si_range1 {tg : Expr} {t : TA} {m : EV → Out (List Rv × EV)} {p : Pos} (hm : X.mg "range" = none) (h : SA X K cl E [e] t m) (hg : Gl X "range" := by rfl) (hs : starEach [e] X.env = [(false, eval e X.env)] := by rfl) : SI X K cl E tg (.Call (.Name "range" p) [e] [] pos) (iRng1 t) (iR1 m) := ⟨pi_range1 hg hm h.1 hs, fun F H ρ σ Q en p => by
  refine h.2.then en p fun F1 H1 ρ1 rs ws s rr p1 => ?_
  unfold iR1 at p1
  dsimp only at p1
  split at p1
  · rename_i j
    cases rr with
    | cons hr r1 r2 =>
      cases r2
      by_cases hj : -(2 ^ 62) ≤ j ∧ j < 2 ^ 62
      · rw [if_pos hj] at p1
        cases (show R _ F1 (.int j) _ from r1)
        exact ⟨j, rfl, hj.1, hj.2, p1 F1 H1 _ s itR_rng⟩
      · rw [if_neg hj] at p1; exact p1.elim
  · exact p1.elim⟩
def iR2 (m : EV → Out (List Rv × EV)) : EV → Out (List D × EV) := fun ρ => (m ρ).bind fun x => match x.1 with
  | [.val (.int i), .val (.int j)] => if -(2 ^ 62) ≤ i ∧ i < 2 ^ 62 ∧ -(2 ^ 62) ≤ j ∧ j < 2 ^ 62 then .ok (rngD i (j - i).toNat, x.2) else .bad
  | _ => .bad
theorem MdI.thenS {wi : TI} {m : EV → Out (List D × EV)} (ha : MdI G E wi m) {Q : It → Hp → Prop} {β : Type} {okc : β → Prop} {k : List D × EV → Out β} (s : StI G A F H ρ σ) (p : PostG okc (XS G E A) ((m ρ).bind k))
    (h : ∀ F1 H1 ρ1 ds J, StI G A F1 H1 ρ1 σ → ItR G F1 J ds → PostG okc (XS G E A) (k (ds, ρ1)) → Q J H1) : wi σ H Q := by
  refine ha F H ρ σ Q s.env ?_
  rw [post_bind] at p
  revert p
  cases m ρ with
  | bad => exact fun p => p
  | ex c f ρ' => exact fun p => xs_xc s p
  | ok x => exact fun p F1 H1 J t r => h F1 H1 x.2 x.1 J (s.stp t) r p
theorem MdI.then {wi : TI} {m : EV → Out (List D × EV)} (ha : MdI G E wi m) {Q : It → Hp → Prop} {β : Type} {okc : β → Prop} {k : List D × EV → Out β} (e : EnvR G F H ρ σ) (p : PostG okc (XC G E F H σ ρ) ((m ρ).bind k))
    (h : ∀ F1 H1 ρ1 ds J, Stp G F H ρ F1 H1 ρ1 σ → ItR G F1 J ds → PostG okc (XC G E F1 H1 σ ρ1) (k (ds, ρ1)) → Q J H1) : wi σ H Q := by
  refine ha F H ρ σ Q e ?_
  rw [post_bind] at p
  revert p
  cases m ρ with
  | bad => exact fun p => p
  | ex c f ρ' => exact fun p => p
  | ok x => exact fun p F1 H1 J t r => h F1 H1 x.2 x.1 J t r (PostG.imp (show PostG okc (XC G E F H σ ρ) (k x) from p) (fun _ q => q) fun _ _ _ q => q.step t)
theorem StI.re (s : StI G A F H ρ σ) : StI G { A with F0 := F } F H ρ σ := ⟨s.env, .refl _, fun _ _ h => .inl h, s.keep, s.loc, s.par⟩
theorem StI.un {F1 H1 : Hp} {ρ1 : EV} {σ1 : St} (s : StI G A F H ρ σ) (k : StI G { A with F0 := F } F1 H1 ρ1 σ1) : StI G A F1 H1 ρ1 σ1 := ⟨k.env, s.fr.trans k.fr, fun a o h => (k.new a o h).elim (s.new a o) .inr, k.keep, k.loc, k.par⟩
/-! ### for -/
def loopG (g : Tgm) (body : EV → Out (Fl × EV)) : List D → EV → Out (Fl × EV)
  | [], ρ => .ok (.next, ρ)
  | d :: ds, ρ => match g d ρ with
    | none => .bad
    | some ρ1 => (body ρ1).bind fun x => match x.1 with
      | .next => loopG g body ds x.2
      | .cont => loopG g body ds x.2
      | .brk => .ok (.next, x.2)
      | .ret r => .ok (.ret r, x.2)
def sFor (it : EV → Out (List D × EV)) (g : Tgm) (body : EV → Out (Fl × EV)) : EV → Out (Fl × EV) := fun ρ => (it ρ).bind fun x => loopG g body x.1 x.2
variable {t u : TS} {m n : EV → Out (Fl × EV)} {st : Stmt} {rest : List Stmt}
theorem ms_for {wi : TI} {mi : EV → Out (List D × EV)} {g : TG} {mg : Tgm} (hi : MdI G E wi mi) (hg : MdG G np vs g mg) (hb : Ms G E np t m) : Ms G E np (tFor wi g t) (sFor mi mg m) := fun A F H ρ σ Dn hn s p => by
  refine hi.thenS s p fun F1 H1 ρ1 ds J s1 it p1 => ?_
  refine ⟨fun i k σ H => ∃ F ρ, StI G A F H ρ σ ∧ Same F1 F ∧ PostG (OkS G A Dn) (XS G E A) (loopG mg m (ds.drop i) ρ) ∧ k = ds.length - i, ⟨_, F1, ρ1, s1, .refl _, by simpa using p1, rfl⟩, ?_⟩
  rintro i k σ H ⟨F2, ρ2, s2, sm, p2, rfl⟩
  obtain ⟨i1, i2⟩ := it F2 H sm s2.env.same
  by_cases hl : i < ds.length
  · right
    obtain ⟨d, hd⟩ : ∃ d, ds[i]? = some d := ⟨_, List.getElem?_eq_getElem hl⟩
    obtain ⟨go, yl⟩ := i1 i d hd
    refine ⟨go, fun σ' H' => ∃ F ρ, StI G A F H' ρ σ' ∧ Same F1 F ∧ PostG (OkS G A Dn) (XS G E A) (loopG mg m (ds.drop (i + 1)) ρ), ?_, ?_⟩
    · rintro σ' H' ⟨F3, ρ3, s3, sm3, p3⟩
      exact ⟨ds.length - (i + 1), by omega, F3, ρ3, s3, sm3, p3, rfl⟩
    · intro x H3 hy
      obtain ⟨F3, gr, rx⟩ := yl x H3 hy
      have s3 := s2.grow gr
      have dr : ds.drop i = d :: ds.drop (i + 1) := by
        rw [List.drop_eq_getElem_cons hl]
        congr
        rw [List.getElem?_eq_getElem hl] at hd
        exact Option.some.inj hd
      rw [dr] at p2
      simp only [loopG] at p2
      cases q : mg d ρ2 with
      | none => rw [q] at p2; exact p2.elim
      | some ρ4 =>
        rw [q] at p2
        refine hg F3 H3 ρ2 σ ρ2 σ d x _ s3.env.same .refl rx ⟨ρ4, q, fun σ4 st4 => ?_⟩
        have s4 := st4.sti hn s3
        refine hb { A with F0 := F3 } F3 H3 ρ4 σ4 _ hn s4.re ?_
        have p2 := (post_bind _ _).mp p2
        refine PostG.imp p2 (fun y z => ?_) fun _ _ _ z F' H' σ' cls dd s' x => z F' H' σ' cls dd (s4.un s') x
        obtain ⟨f, ρ5⟩ := y
        cases f with
        | next => exact fun F' H' σ' s' => ⟨F', ρ5, s4.un s', (sm.trans gr.fr).trans s'.fr, z⟩
        | cont => exact fun F' H' σ' s' => ⟨F', ρ5, s4.un s', (sm.trans gr.fr).trans s'.fr, z⟩
        | brk => exact fun F' H' σ' s' => z F' H' σ' (s4.un s')
        | ret r => exact fun F' H' σ' v s' rr => z F' H' σ' v (s4.un s') (by cases r <;> exact rr)
  · left
    refine ⟨i2 i (by omega), ?_⟩
    rw [List.drop_eq_nil_of_le (by omega)] at p2
    exact p2 F2 H σ s2
theorem ss_for {tg iter : Expr} {body : List Stmt} {wi : TI} {mi : EV → Out (List D × EV)} {g : TG} {mg : Tgm} (hp : PassesOwn (model X.prog X.w) X.A X.env X.xe) (hc : X.calm = true) (hi : SI X K cl E tg iter wi mi) (hg : SG X K cl np vs tg g mg) (hb : SB X K cl E np body t m)
    (hs : ∀ x, foldedSetIterable iter X.env x = pure x := by intro _; rfl) : SS X K cl E np (.For tg iter body [] pos) (tFor wi g t) (sFor mi mg m) := ⟨ps_for hp hc hi.1 hg.1 hb.1 hs, ms_for hi.2 hg.2 hb.2⟩
/-! ### while -/
/-! ### (a, b) = e; a, b = x, y -/
def sTup (mg : Tgm) (m : EV → Out (Rv × EV)) : EV → Out (Fl × EV) := fun ρ => (fzO (m ρ)).bind fun x => match x.1 with
  | .val d => match mg d x.2 with
    | some ρ' => .ok (.next, ρ')
    | none => .bad
  | _ => .bad
theorem ss_unpack {tg : Expr} {g : TG} {mg : Tgm} (h : SE X K cl E e ta ma) (hg : SG X K cl np vs tg g mg) (hs : swapsWithSole [tg] e pos.line X.env = pure false := by rfl) (hw : swappedStores [tg] e X.env = pure none := by rfl)
    (h1 : (assignEach [tg] X.env).map (·.2) = [assign tg X.env] := by rfl) : SS X K cl E np (.Assign [tg] e pos) (tAsg ta g) (sTup mg ma) := ⟨ps_asg h.1 hg.1 hs hw h1, fun A F H ρ σ Dn hn s p => by
  refine h.2.fz.thenS s p fun F1 H1 ρ1 r v s1 t1 rr p1 => ?_
  cases r with
  | own d => exact p1.elim
  | ref i => exact p1.elim
  | val d =>
    dsimp only at p1
    cases q : mg d ρ1 with
    | none => rw [q] at p1; exact p1.elim
    | some ρ' => rw [q] at p1; exact hg.2 F1 H1 ρ1 σ ρ1 σ d v _ s1.env.same .refl rr ⟨ρ', q, fun σ' st => p1 F1 H1 σ' (st.sti hn s1)⟩⟩
/-- frozen, or left as it is -/
def fzB (o : Bool) (x : Out (Rv × EV)) : Out (Rv × EV) := if o = true then x else fzO x
theorem Md.fzB (o : Bool) (h : Md G E ta ma) : Md G E ta (fun ρ => Fr.fzB o (ma ρ)) := by
  cases o with
  | true => exact h
  | false => exact h.fz
def setR (np i : Nat) (r : Rv) (ρ : EV) : Option EV := if okSet np i ρ = true then match r with
    | .val d => some (ρ.set i (some (.val d)))
    | .own d => some (ρ.set i (some (.own d)))
    | .ref _ => none
  else none
def outO (o : Option EV) : Out (Fl × EV) := match o with
  | some ρ => .ok (.next, ρ)
  | none => .bad
def sPar2 (np i : Nat) (oi : Bool) (j : Nat) (oj : Bool) (a b : EV → Out (Rv × EV)) : EV → Out (Fl × EV) := fun ρ => (fzB oi (a ρ)).bind fun x => (fzB oj (b x.2)).bind fun y =>
  outO ((setR np i x.1 y.2).bind fun ρ1 => setR np j y.1 ρ1)
/-- a result that stays to be stored: N tells which addresses are others' -/
def Kp (G : Gx) (A : An) (F H : Hp) (ρ : EV) (σ : St) (N : Addr → Prop) : Rv → V → Prop
  | .val d, v => R G F d v
  | .own d, v => ∃ a, v = .ref a ∧ F a = none ∧ OwnR G F H d a ∧ (∀ j, ¬ Ow ρ σ j a) ∧ A.H0 a = none ∧ ¬ N a
  | .ref _, _ => True
theorem Kp.of {N : Addr → Prop} {r : Rv} {v : V} (s : StI G A F H ρ σ) (t : Stp G F H ρ F' H' ρ' σ) (h : ResR G H F' H' ρ' σ r v) (hN : ∀ a, N a → ∃ o, H a = some o) : Kp G A F' H' ρ' σ N r v := by
  cases r with
  | val d => exact h
  | ref i => trivial
  | own d =>
    obtain ⟨a, h1, h2, h3, h4⟩ := h
    refine ⟨a, h1, h2, h4, fun j w => ?_, s.free h3, fun w => ?_⟩
    · obtain ⟨y, hy⟩ := s.env.there ((t.ow j).mp w)
      rw [h3] at hy; cases hy
    · obtain ⟨o, q⟩ := hN a w; rw [h3] at q; cases q
theorem Kp.step {N : Addr → Prop} {r : Rv} {v : V} (t : Stp G F H ρ F' H' ρ' σ) (h : Kp G A F H ρ σ N r v) : Kp G A F' H' ρ' σ N r v := by
  cases r with
  | val d => exact R.mono t.fr h
  | ref i => trivial
  | own d =>
    obtain ⟨a, h1, h2, h4, h5, h6, h7⟩ := h
    obtain ⟨o, ho⟩ := h4.there
    refine ⟨a, h1, ?_, (h4.mono t.fr).at ((t.keep a o ho h5).trans ho.symm), fun j w => h5 j ((t.ow j).mp w), h6, h7⟩
    cases y : F' a with
    | none => rfl
    | some x =>
      rcases t.new a x y with u | u
      · rw [h2] at u; cases u
      · exact (u.own h4).elim
def adr : Rv → V → Addr → Prop
  | .own _, v, a => v = .ref a
  | _, _, _ => False
theorem Kp.adr {N : Addr → Prop} {r : Rv} {v : V} (h : Kp G A F H ρ σ N r v) (a : Addr) (w : adr r v a) : ∃ o, H a = some o := by
  cases r with
  | val d => exact w.elim
  | ref i => exact w.elim
  | own d =>
    obtain ⟨b, h1, h2, h4, h5, h6⟩ := h
    have : b = a := by have q : v = .ref a := w; rw [h1] at q; injection q
    subst this
    exact h4.there
theorem setR_ok {i : Nat} {r : Rv} {v : V} {N : Addr → Prop} (hn : A.as.length = np) (s : StI G A F H ρ σ) (h : Kp G A F H ρ σ N r v) (q : setR np i r ρ = some ρ') : StI G A F H ρ' (σ.set i (some v)) ∧ ∀ (N' : Addr → Prop) r' v', (∀ a, Fr.adr r v a → N' a) → Kp G A F H ρ σ N' r' v' → Kp G A F H ρ' (σ.set i (some v)) N' r' v' := by
  unfold setR at q
  by_cases ok : okSet np i ρ = true
  · rw [if_pos ok] at q
    cases r with
    | val d =>
      injection q with q; subst q
      refine ⟨s.setVal hn ok h, fun N' r' v' _ k => ?_⟩
      cases r' with
      | val d => exact k
      | ref i => trivial
      | own d' =>
        obtain ⟨a, h1, h2, h4, h5, h6, h7⟩ := k
        refine ⟨a, h1, h2, h4, ?_, h6, h7⟩
        rintro j ⟨⟨x, q1⟩, q2⟩
        rw [get_set] at q1 q2
        by_cases z : i = j
        · rw [if_pos z] at q1
          by_cases y : i < ρ.length
          · rw [if_pos y] at q1; injection q1 with q1; cases q1
          · rw [if_neg y] at q1; cases q1
        · rw [if_neg z] at q1 q2; exact h5 j ⟨⟨x, q1⟩, q2⟩
    | ref i => cases q
    | own d =>
      injection q with q; subst q
      obtain ⟨a, h1, h2, h4, h5, h6, h7⟩ := h
      subst h1
      refine ⟨s.setOwn hn ok h2 h4 h5 h6, fun N' r' v' hh k => ?_⟩
      cases r' with
      | val d => exact k
      | ref i => trivial
      | own d' =>
        obtain ⟨b, k1, k2, k4, k5, k6, k7⟩ := k
        refine ⟨b, k1, k2, k4, ?_, k6, k7⟩
        rintro j ⟨⟨x, q1⟩, q2⟩
        rw [get_set] at q1 q2
        by_cases z : i = j
        · rw [if_pos z] at q2
          by_cases y : i < σ.length
          · rw [if_pos y] at q2
            injection q2 with q2; injection q2 with q2; injection q2 with q2
            subst q2
            exact k7 (hh _ rfl)
          · rw [if_neg y] at q2; cases q2
        · rw [if_neg z] at q1 q2; exact k5 j ⟨⟨x, q1⟩, q2⟩
  · rw [if_neg ok] at q; cases q
theorem ms_par2 {i j : Nat} {oi oj : Bool} (ha : Md G E ta ma) (hb : Md G E tb mb) : Ms G E np (tPar i j (tCons ta (tCons tb tNil))) (sPar2 np i oi j oj ma mb) := fun A F H ρ σ Dn hn s p => by
  refine (ha.fzB oi).thenS s p fun F1 H1 ρ1 r v s1 t1 rr p1 => ?_
  refine (hb.fzB oj).thenS s1 p1 fun F2 H2 ρ2 r2 v2 s2 t2 rr2 p2 => ?_
  have k1 := (Kp.of (N := fun _ => False) s t1 rr fun _ w => w.elim)
  have k2 := Kp.of (N := adr r v) s1 t2 rr2 fun a w => k1.adr a w
  have k1 := k1.step t2
  refine ⟨v, v2, rfl, ?_⟩
  dsimp only at p2
  cases q1 : setR np i r ρ2 with
  | none => rw [q1] at p2; exact p2.elim
  | some ρ3 =>
    obtain ⟨s3, c3⟩ := setR_ok hn s2 k1 q1
    cases q2 : setR np j r2 ρ3 with
    | none => rw [q1] at p2; simp only [Option.bind, q2] at p2; exact p2.elim
    | some ρ4 =>
      rw [q1] at p2; simp only [Option.bind, q2] at p2
      exact p2 F2 H2 _ (setR_ok hn s3 (c3 _ _ _ (fun _ w => w) k2) q2).1
theorem ss_par2 (i : Nat) (oi : Bool) (j : Nat) (oj : Bool) {x y : Str} {px py pt : Pos} {kt k2 pt2} (hc : X.calm = true) (hN : X.N.Nodup) (ha : SE X K cl E a ta ma) (hb : SE X K cl E b tb mb) (hi : X.N[i]? = some x := by rfl) (hj : X.N[j]? = some y := by rfl) (hij : i ≠ j := by decide)
    (hx : X.env.scope.names.lookup x = some .local := by rfl) (hy : X.env.scope.names.lookup y = some .local := by rfl) (hs1 : starEach [a, b] X.env = (false, eval a X.env) :: starEach [b] X.env := by rfl) (hs2 : starEach [b] X.env = (false, eval b X.env) :: starEach [] X.env := by rfl)
    (hw : swappedStores [.Tuple [.Name x px, .Name y py] kt pt] (.Tuple [a, b] k2 pt2) X.env = pure (some [x, y]) := by rfl)
    (hs : swapsWithSole [.Tuple [.Name x px, .Name y py] kt pt] (.Tuple [a, b] k2 pt2) pos.line X.env = pure false := by rfl) :
    SS X K cl E np (.Assign [.Tuple [.Name x px, .Name y py] kt pt] (.Tuple [a, b] k2 pt2) pos) (tPar i j (tCons ta (tCons tb tNil))) (sPar2 np i oi j oj ma mb) :=
  ⟨ps_par hc hN hi hj hij hx hy (pa_cons ha.1 (pa_cons hb.1 pa_nil hs2) hs1) hw hs, ms_par2 ha.2 hb.2⟩
end
end Fr
namespace Fr
open PySem L2
def wipeE (ρ : EV) : List Nat → EV
  | [] => ρ
  | v :: vs => (wipeE ρ vs).set v none
/-- behind a turn of a comprehension: its own names as they were -/
def back (ρ : EV) (vs : List Nat) (ρ' : EV) : EV := ρ'.mapIdx fun i x => if i ∈ vs then (ρ[i]?).getD none else x
def SPs (X : Cx) (K : PySem.W.Frag) (cl : Str → Addr) (E : XK) (ifs : List Expr) (t : TT) (m : EV → Out (Bool × EV)) : Prop := PTs X ifs t ∧ MdT ⟨K, cl⟩ E t m
def mYes : EV → Out (Bool × EV) := fun ρ => .ok (true, ρ)
section
variable {G : Gx} {E : XK} {X : Cx} {K : PySem.W.Frag} {cl : Str → Addr} {A : An} {np : Nat} {vs : List Nat} {ta tb tc te : TE} {ma mb mc me : EV → Out (Rv × EV)} {a b c e : Expr} {es : List Expr} {pos : Pos} {F H F' H' : Hp} {ρ ρ' : EV} {σ σ' : St}
theorem sps_nil : SPs X K cl E [] tYes mYes := ⟨pts_nil, fun F H ρ σ Q e p => p F H (.refl e)⟩
theorem wipeE_out {i : Nat} : ∀ {vs : List Nat}, i ∉ vs → (wipeE ρ vs)[i]? = ρ[i]?
  | [], _ => rfl
  | v :: vs, h => by
    simp only [wipeE]
    rw [get_set, if_neg (show ¬ v = i from fun q => h (by rw [q]; exact List.mem_cons_self)), wipeE_out fun q => h (List.mem_cons_of_mem _ q)]
theorem wipeE_in {i : Nat} {x : Sl} : ∀ {vs : List Nat}, i ∈ vs → (wipeE ρ vs)[i]? ≠ some (some x)
  | v :: vs, h => by
    simp only [wipeE]
    rw [get_set]
    by_cases z : v = i
    · rw [if_pos z]; split <;> simp
    · rw [if_neg z]
      rcases List.mem_cons.mp h with q | q
      · exact (z q.symm).elim
      · exact wipeE_in q
theorem wipeE_len : ∀ {vs : List Nat}, (wipeE ρ vs).length = ρ.length
  | [] => rfl
  | v :: vs => by simp only [wipeE, List.length_set]; exact wipeE_len
theorem wipe_len : ∀ {vs : List Nat}, (wipe σ vs).length = σ.length
  | [] => rfl
  | v :: vs => by simp only [wipe, List.length_set]; exact wipe_len
theorem EnvR.wipe (e : EnvR G F H ρ σ) (vs : List Nat) : EnvR G F H (wipeE ρ vs) (wipe σ vs) := by
  have key : ∀ (i : Nat) (x : Sl), (wipeE ρ vs)[i]? = some (some x) → i ∉ vs ∧ ρ[i]? = some (some x) ∧ (L2.wipe σ vs)[i]? = σ[i]? := by
    intro i x q
    by_cases z : i ∈ vs
    · exact (wipeE_in z q).elim
    · exact ⟨z, by rw [← wipeE_out z]; exact q, wipe_out z⟩
  refine ⟨e.same, by rw [wipeE_len, wipe_len]; exact e.len, ?_, ?_, ?_⟩
  · intro i d q
    obtain ⟨_, h1, h2⟩ := key i _ q
    rw [h2]; exact e.val i d h1
  · intro i d q
    obtain ⟨_, h1, h2⟩ := key i _ q
    rw [h2]; exact e.own i d h1
  · rintro i j b ⟨⟨x, q1⟩, q2⟩ ⟨⟨y, q3⟩, q4⟩
    obtain ⟨_, h1, h2⟩ := key i _ q1
    obtain ⟨_, h3, h4⟩ := key j _ q3
    rw [h2] at q2; rw [h4] at q4
    exact e.ne i j b ⟨⟨x, h1⟩, q2⟩ ⟨⟨y, h3⟩, q4⟩
theorem Sets.out (h : Sets G F np vs ρ σ ρ' σ') {i : Nat} (hi : i ∉ vs) : ρ'[i]? = ρ[i]? ∧ σ'[i]? = σ[i]? := by
  induction h with
  | refl => exact ⟨rfl, rfl⟩
  | @set ρ1 σ1 j d v _ ok hv r ih =>
    have z : j ≠ i := fun q => hi (q ▸ hv)
    rw [get_set, get_set, if_neg z, if_neg z]; exact ih
theorem Sets.noOwn (h : Sets G F np vs ρ σ ρ' σ') (h0 : ∀ i ∈ vs, ∀ d : D, ρ[i]? ≠ some (some (Sl.own d))) : ∀ i ∈ vs, ∀ d : D, ρ'[i]? ≠ some (some (Sl.own d)) := by
  induction h with
  | refl => exact h0
  | @set ρ1 σ1 j d v _ ok hv r ih =>
    intro i hi x q
    rw [get_set] at q
    by_cases z : j = i
    · rw [if_pos z] at q; split at q
      · injection q with q; cases q
      · cases q
    · rw [if_neg z] at q; exact ih i hi x q
/-- a turn of a block, seen from outside -/
theorem blk_back {F3 H3 F5 H5 : Hp} {ρ4 ρ5 : EV} {σ4 : St} (e : EnvR G F H ρ σ) (gr : Grow F H F3 H3) (st : Sets G F3 0 vs (wipeE ρ vs) (wipe σ vs) ρ4 σ4) (t : Stp G F3 H3 ρ4 F5 H5 ρ5 σ4) : Stp G F H ρ F5 H5 (back ρ vs ρ5) σ := by
  have out : ∀ i : Nat, i ∉ vs → ρ4[i]? = ρ[i]? ∧ σ4[i]? = σ[i]? := fun i hi => by
    obtain ⟨h1, h2⟩ := st.out hi
    exact ⟨h1.trans (wipeE_out hi), h2.trans (wipe_out hi)⟩
  have noO : ∀ i ∈ vs, ∀ d : D, ρ4[i]? ≠ some (some (Sl.own d)) := st.noOwn fun i hi d => wipeE_in hi
  have len5 : ρ5.length = ρ.length := by
    have h1 := t.env.len
    have h2 := (st.env ((e.grow gr).wipe vs)).len
    have h3 : σ4.length = σ.length := by
      have : ∀ {ρ' : EV} {σ' : St}, Sets G F3 0 vs (wipeE ρ vs) (L2.wipe σ vs) ρ' σ' → σ'.length = σ.length := by
        intro ρ' σ' h
        induction h with
        | refl => exact wipe_len
        | set _ _ _ _ ih => rw [List.length_set]; exact ih
      exact this st
    rw [h1, h3, ← e.len]
  have get : ∀ i : Nat, (back ρ vs ρ5)[i]? = if i ∈ vs then ρ[i]? else ρ5[i]? := by
    intro i
    simp only [back, List.getElem?_mapIdx]
    by_cases hi : i ∈ vs
    · rw [if_pos hi]
      by_cases hl : i < ρ.length
      · rw [List.getElem?_eq_getElem (l := ρ5) (by omega), List.getElem?_eq_getElem hl]; simp [hi]
      · rw [List.getElem?_eq_none (l := ρ5) (by omega), List.getElem?_eq_none (l := ρ) (by omega)]; rfl
    · rw [if_neg hi]; simp [hi]
  have ow4 : ∀ (i : Nat) (a : Addr), Ow ρ4 σ4 i a → i ∉ vs ∧ Ow ρ σ i a := by
    rintro i a ⟨⟨d, q1⟩, q2⟩
    have hi : i ∉ vs := fun z => noO i z d q1
    obtain ⟨h1, h2⟩ := out i hi
    exact ⟨hi, ⟨d, h1 ▸ q1⟩, h2 ▸ q2⟩
  have mode : ∀ i : Nat, (∃ d d' : D, ρ[i]? = some (some (Sl.own d)) ∧ (back ρ vs ρ5)[i]? = some (some (Sl.own d'))) ∨ ((∀ d : D, ρ[i]? ≠ some (some (Sl.own d))) ∧ (back ρ vs ρ5)[i]? = ρ[i]?) := by
    intro i
    rw [get]
    by_cases hi : i ∈ vs
    · rw [if_pos hi]
      cases z : ρ[i]? with
      | none => exact .inr ⟨by simp, rfl⟩
      | some x =>
        cases x with
        | none => exact .inr ⟨by simp, rfl⟩
        | some x =>
          cases x with
          | val d => exact .inr ⟨by simp, rfl⟩
          | own d => exact .inl ⟨d, d, rfl, rfl⟩
    · rw [if_neg hi]
      have h1 := (out i hi).1
      rcases t.mode i with ⟨d, d', k1, k2⟩ | ⟨k1, k2⟩
      · exact .inl ⟨d, d', h1 ▸ k1, k2⟩
      · exact .inr ⟨fun d q => k1 d (h1.trans q), k2.trans h1⟩
  have keep : ∀ a o, H a = some o → (∀ i, ¬ (i ∉ vs ∧ Ow ρ σ i a)) → H5 a = some o := fun a o h w => t.keep a o (gr.keep a o h) fun i q => w i (ow4 i a q)
  have new : ∀ a o, F5 a = some o → F a = some o ∨ Nw H a o := fun a o h => (t.new a o h).elim (gr.new a o) fun q => .inr (q.back gr.keep)
  refine ⟨gr.fr.trans t.fr, ⟨t.env.same, by simp [back, len5, e.len], ?_, ?_, ?_⟩, new, fun a o h w => keep a o h fun i q => w i q.2, mode⟩
  · intro i d q
    rcases mode i with ⟨x, x', h1, h2⟩ | ⟨h1, h2⟩
    · rw [h2] at q; injection q with q; cases q
    · rw [h2] at q
      obtain ⟨v, k1, k2⟩ := e.val i d q
      exact ⟨v, k1, (k2.mono gr.fr).mono t.fr⟩
  · intro i d q
    rw [get] at q
    by_cases hi : i ∈ vs
    · rw [if_pos hi] at q
      obtain ⟨a, k1, k2, k3⟩ := e.own i d q
      obtain ⟨o, ho⟩ := k3.there
      refine ⟨a, k1, ?_, ((k3.mono gr.fr).mono t.fr).at ((keep a o ho ?_).trans ho.symm)⟩
      · cases y : F5 a with
        | none => rfl
        | some x =>
          rcases new a x y with u | u
          · rw [k2] at u; cases u
          · exact (u.own k3).elim
      · rintro j ⟨hj, w⟩
        exact hj (e.ne j i a w ⟨⟨d, q⟩, k1⟩ ▸ hi)
    · rw [if_neg hi] at q
      obtain ⟨a, k1, k2, k3⟩ := t.env.own i d q
      exact ⟨a, (out i hi).2 ▸ k1, k2, k3⟩
  · rintro i j b ⟨⟨x, q1⟩, q2⟩ ⟨⟨y, q3⟩, q4⟩
    refine e.ne i j b ⟨?_, q2⟩ ⟨?_, q4⟩
    · rcases mode i with ⟨z, z', h1, h2⟩ | ⟨h1, h2⟩
      · exact ⟨z, h1⟩
      · exact ⟨x, h2 ▸ q1⟩
    · rcases mode j with ⟨z, z', h1, h2⟩ | ⟨h1, h2⟩
      · exact ⟨z, h1⟩
      · exact ⟨y, h2 ▸ q3⟩
theorem wipe_wipe {σ : St} : ∀ {ws vs : List Nat}, (∀ i ∈ ws, i ∈ vs) → wipe (wipe σ ws) vs = wipe σ vs
  | [], _, _ => rfl
  | w :: ws, vs, h => by
    show L2.wipe ((L2.wipe σ ws).set w none) vs = _
    rw [wipe_set (h w List.mem_cons_self)]
    exact wipe_wipe fun i q => h i (List.mem_cons_of_mem _ q)
/-! ### list comprehensions -/
def lcGo (mg : Tgm) (vs : List Nat) (mt : EV → Out (Bool × EV)) (me : EV → Out (Rv × EV)) : List D → List D → EV → Out (Rv × EV)
  | [], acc, ρ => .ok (.own (.list acc), ρ)
  | d :: ds, acc, ρ => match mg d (wipeE ρ vs) with
    | none => .bad
    | some ρ4 => match mt ρ4 with
      | .ok (true, ρ5) => match fzO (me ρ5) with
        | .ok (.val y, ρ6) => if acc.length < sizeLine then lcGo mg vs mt me ds (acc ++ [y]) (back ρ vs ρ6) else .bad
        | _ => .bad
      | .ok (false, ρ5) => lcGo mg vs mt me ds acc (back ρ vs ρ5)
      | _ => .bad
def mLc (mi : EV → Out (List D × EV)) (mg : Tgm) (vs : List Nat) (mt : EV → Out (Bool × EV)) (me : EV → Out (Rv × EV)) : EV → Out (Rv × EV) := fun ρ => (mi ρ).bind fun x => lcGo mg vs mt me x.1 [] x.2
theorem Stp.upd' {a : Addr} {o o' : HO} {F1 H1 : Hp} {ρ1 : EV} (t : Stp G F1 H1 ρ1 F H ρ σ) (n : H1 a = Option.none) (f : F a = Option.none) (hh : H a = some o') (w : ∀ i, ¬ Ow ρ σ i a) : Stp G F1 H1 ρ1 F (upd H a o) ρ σ where
  fr := t.fr
  env := by
    refine ⟨fun b x q => ?_, t.env.len, t.env.val, fun i d q => ?_, t.env.ne⟩
    · rw [upd_ne (ne_of_none q f)]; exact t.env.same b x q
    · obtain ⟨b, k1, k2, k3⟩ := t.env.own i d q
      have z : b ≠ a := fun z => w i ⟨⟨d, q⟩, z ▸ k1⟩
      exact ⟨b, k1, k2, k3.at (upd_ne z)⟩
  new := t.new
  keep := fun b x q z => by rw [upd_ne (ne_of_none q n)]; exact t.keep b x q z
  mode := t.mode
theorem md_lc {wi : TI} {mi : EV → Out (List D × EV)} {g : TG} {mg : Tgm} {tt : TT} {mt : EV → Out (Bool × EV)} (hi : MdI G E wi mi) (hg : MdG G 0 vs g mg) (ht : MdT G E0 tt mt) (he : Md G E0 te me) : Md G E (tLc wi g tt te vs) (mLc mi mg vs mt me) := fun F H ρ σ Q en p => by
  refine hi.then en p fun F1 H1 ρ1 ds J s1 it p1 => ?_
  intro Dn n1
  have gr1 : Grow F1 H1 F1 (upd H1 Dn (.lst [])) := .beside s1.env.same n1
  have nw : ∀ i, ¬ Ow ρ1 σ i Dn := fun i w => by obtain ⟨y, hy⟩ := s1.env.there w; rw [n1] at hy; cases hy
  refine ⟨fun i k H' => ∃ F' ρ' acc av, Stp G F1 H1 ρ1 F' H' ρ' σ ∧ F' Dn = none ∧ H' Dn = some (.lst av) ∧ Rs G F' acc av ∧ PostG (Okc G F H σ ρ Q) (XC G E F1 H1 σ ρ1) (lcGo mg vs mt me (ds.drop i) acc ρ') ∧ k = ds.length - i,
    ⟨_, F1, ρ1, [], [], gr1.stp s1.env, s1.env.same.free n1, upd_same, .nil, by simpa using p1, rfl⟩, ?_⟩
  rintro i k H2 ⟨F2, ρ2, acc, av, t2, f2, h2, r2, p2, rfl⟩
  have w2 : ∀ i, ¬ Ow ρ2 σ i Dn := fun i w => nw i ((t2.ow i).mp w)
  obtain ⟨i1, i2⟩ := it F2 H2 t2.fr t2.env.same
  by_cases hl : i < ds.length
  · right
    obtain ⟨d, hd⟩ : ∃ d, ds[i]? = some d := ⟨_, List.getElem?_eq_getElem hl⟩
    obtain ⟨go, yl⟩ := i1 i d hd
    refine ⟨go, fun H' => ∃ F' ρ' acc av, Stp G F1 H1 ρ1 F' H' ρ' σ ∧ F' Dn = none ∧ H' Dn = some (.lst av) ∧ Rs G F' acc av ∧ PostG (Okc G F H σ ρ Q) (XC G E F1 H1 σ ρ1) (lcGo mg vs mt me (ds.drop (i + 1)) acc ρ'), ?_, ?_⟩
    · rintro H' ⟨F3, ρ3, acc3, av3, a1, a2, a3, a4, a5⟩
      exact ⟨ds.length - (i + 1), by omega, F3, ρ3, acc3, av3, a1, a2, a3, a4, a5, rfl⟩
    · intro x H3 hy
      obtain ⟨F3, gr, rx⟩ := yl x H3 hy
      have dr : ds.drop i = d :: ds.drop (i + 1) := by
        rw [List.drop_eq_getElem_cons hl]
        congr
        rw [List.getElem?_eq_getElem hl] at hd
        exact Option.some.inj hd
      rw [dr] at p2
      simp only [lcGo] at p2
      cases q : mg d (wipeE ρ2 vs) with
      | none => rw [q] at p2; exact p2.elim
      | some ρ4 =>
        rw [q] at p2
        dsimp only at p2
        refine hg F3 H3 (wipeE ρ2 vs) (wipe σ vs) (wipeE ρ2 vs) (wipe σ vs) d x _ gr.sub .refl rx ⟨ρ4, q, fun σ4 st4 => ?_⟩
        have e3 := (t2.env.grow gr).wipe vs
        have e4 := st4.env e3
        refine ⟨by rw [st4.wipe]; exact wipe_wipe fun _ h => h, ?_⟩
        have w4 : ∀ i, ¬ Ow ρ4 σ4 i Dn := by
          rintro j ⟨⟨y, q1⟩, q2⟩
          by_cases hj : j ∈ vs
          · exact st4.noOwn (fun i hi d => wipeE_in hi) j hj y q1
          · obtain ⟨k1, k2⟩ := st4.out hj
            exact w2 j ⟨⟨y, by rw [← wipeE_out hj, ← k1]; exact q1⟩, by rw [← wipe_out hj, ← k2]; exact q2⟩
        have h3 : H3 Dn = some (.lst av) := gr.keep _ _ h2
        have f3 : F3 Dn = none := by
          cases y : F3 Dn with
          | none => rfl
          | some z =>
            rcases gr.new _ z y with u | u
            · rw [f2] at u; cases u
            · exact (u.ne h2 nofun).elim
        refine ht F3 H3 ρ4 σ4 _ e4 ?_
        revert p2
        cases mt ρ4 with
        | bad => exact False.elim
        | ex c f ρ' => exact False.elim
        | ok y =>
          obtain ⟨b, ρ5⟩ := y
          cases b with
          | false =>
            intro p2 F5 H5 t5
            refine iteF ⟨F5, _, acc, av, t2.trans (blk_back t2.env gr st4 t5), ?_, t5.keep _ _ h3 w4, (r2.mono gr.fr).mono t5.fr, p2⟩
            cases y : F5 Dn with
            | none => rfl
            | some z =>
              rcases t5.new _ z y with u | u
              · rw [f3] at u; cases u
              · exact (u.ne h3 nofun).elim
          | true =>
            intro p2 F5 H5 t5
            dsimp only at p2
            refine iteT (he.fz F5 H5 ρ5 σ4 _ t5.env ?_)
            revert p2
            dsimp only
            cases fzO (me ρ5) with
            | bad => exact False.elim
            | ex c f ρ' => exact False.elim
            | ok y =>
              obtain ⟨r, ρ6⟩ := y
              cases r with
              | own d => exact False.elim
              | ref i => exact False.elim
              | val y =>
                dsimp only
                by_cases hz : acc.length < sizeLine
                · rw [if_pos hz]
                  intro p2 F6 H6 v t6 rv
                  have t56 := t5.trans t6
                  have h6 : H6 Dn = some (.lst av) := t56.keep _ _ h3 w4
                  have f6 : F6 Dn = none := by
                    cases y : F6 Dn with
                    | none => rfl
                    | some z =>
                      rcases t56.new _ z y with u | u
                      · rw [f3] at u; cases u
                      · exact (u.ne h3 nofun).elim
                  have tb := t2.trans (blk_back t2.env gr st4 t56)
                  refine ⟨av, h6, by rw [r2.length]; exact hz, F6, _, acc ++ [y], av ++ [v], tb.upd' n1 f6 h6 (fun i w => nw i ((tb.ow i).mp w)), f6, upd_same, (((r2.mono gr.fr).mono t56.fr).append (.cons rv .nil)), p2⟩
                · rw [if_neg hz]; exact False.elim
  · left
    refine ⟨i2 i (by omega), ?_⟩
    rw [List.drop_eq_nil_of_le (by omega)] at p2
    simp only [lcGo] at p2
    exact p2 F2 H2 _ (s1.trans t2) ⟨Dn, rfl, f2, s1.none en n1, av, h2, r2⟩
theorem se_lc {elt tg iter : Expr} {ifs : List Expr} {scope : Scope} {wi : TI} {mi : EV → Out (List D × EV)} {g : TG} {mg : Tgm} {tt : TT} {mt : EV → Out (Bool × EV)} (own : List (Str × Nat)) (hc : X.calm = true) (hN : X.N.Nodup) (hi : SI X K cl E tg iter wi mi) (ok : BlkOk X.N X.env.scope scope own)
    (hg : ∀ (s : Shared) (H : Hp) (C : Addr) (c : List (Str × Addr)) (fp : List Addr), SG (X.blk s H scope (compEnvC scope c C X.env) fp) K cl 0 (own.map (·.2)) tg g mg) (ht : ∀ (s : Shared) (H : Hp) (C : Addr) (c : List (Str × Addr)) (fp : List Addr), SPs (X.blk s H scope (compEnvC scope c C X.env) fp) K cl E0 ifs tt mt)
    (he : ∀ (s : Shared) (H : Hp) (C : Addr) (c : List (Str × Addr)) (fp : List Addr), SE (X.blk s H scope (compEnvC scope c C X.env) fp) K cl E0 elt te me) (hs : ∀ x, foldedSetIterable iter X.env x = pure x := by intro _; rfl) :
    SE X K cl E (.ListComp elt [⟨tg, iter, ifs, 0⟩] scope pos) (tLc wi g tt te (own.map (·.2))) (mLc mi mg (own.map (·.2)) mt me) :=
  ⟨pe_lc hc hN hi.1 ok (fun s H C c fp => (hg s H C c fp).1) (fun s H C c fp => (ht s H C c fp).1) (fun s H C c fp => (he s H C c fp).1) hs, md_lc hi.2 (hg X.s_0 X.H_0 0 [] []).2 (ht X.s_0 X.H_0 0 [] []).2 (he X.s_0 X.H_0 0 [] []).2⟩
/-- name = [..], frozen or owned -/
theorem ss_setLcV {elt tg iter : Expr} {ifs : List Expr} {scope : Scope} {wi : TI} {mi : EV → Out (List D × EV)} {g : TG} {mg : Tgm} {tt : TT} {mt : EV → Out (Bool × EV)} (i : Nat) {y : Str} {py spos : Pos} (own : List (Str × Nat)) (hc : X.calm = true) (hN : X.N.Nodup)
    (hsw : swapsWith (.ListComp elt [⟨tg, iter, ifs, 0⟩] scope pos) (some (.Name y py)) spos.line X.env = pure true) (hi : SI X K cl E tg iter wi mi) (ok : BlkOk X.N X.env.scope scope own)
    (hg : ∀ (s : Shared) (H : Hp) (C : Addr) (c : List (Str × Addr)) (fp : List Addr), SG (X.blk s H scope (compEnvC scope c C X.env) fp) K cl 0 (own.map (·.2)) tg g mg) (ht : ∀ (s : Shared) (H : Hp) (C : Addr) (c : List (Str × Addr)) (fp : List Addr), SPs (X.blk s H scope (compEnvC scope c C X.env) fp) K cl E0 ifs tt mt)
    (he : ∀ (s : Shared) (H : Hp) (C : Addr) (c : List (Str × Addr)) (fp : List Addr), SE (X.blk s H scope (compEnvC scope c C X.env) fp) K cl E0 elt te me) (hy : X.N[i]? = some y := by rfl) (hyl : X.env.scope.names.lookup y = some .local := by rfl) (hs : ∀ x, foldedSetIterable iter X.env x = pure x := by intro _; rfl) :
    SS X K cl E np (.Assign [.Name y py] (.ListComp elt [⟨tg, iter, ifs, 0⟩] scope pos) spos) (tAsg (tLc wi g tt te (own.map (·.2))) (gName i)) (sSetV np i (mLc mi mg (own.map (·.2)) mt me)) :=
  ⟨ps_setLc hc hN hy hyl hsw hi.1 ok (fun s H C c fp => (hg s H C c fp).1) (fun s H C c fp => (ht s H C c fp).1) (fun s H C c fp => (he s H C c fp).1) hs, ms_setV (md_lc hi.2 (hg X.s_0 X.H_0 0 [] []).2 (ht X.s_0 X.H_0 0 [] []).2 (he X.s_0 X.H_0 0 [] []).2)⟩
/-! ### a def by its body -/
def outE (as ρ : EV) : EV := as.mapIdx fun i x => match x with
  | some (.own _) => (ρ[i]?).getD none
  | x => x
def runF (np nl : Nat) (mb : EV → Out (Fl × EV)) : Mf := fun as => if as.length = np then match mb (as ++ List.replicate (nl - np) none) with
    | .ok (.ret r, ρ) => .ok (r, outE as ρ)
    | .ok (.next, ρ) => .ok (.val .none, outE as ρ)
    | .ok _ => .bad
    | .ex c f ρ => .ex c f (outE as ρ)
    | .bad => .bad
  else .bad
theorem StI.start {vs : List V} {as : EV} {N : List Str} {F0 H0 : Hp} (e : EnvR G F0 H0 as (vs.map some)) : StI G ⟨F0, H0, as, vs⟩ F0 H0 (as ++ List.replicate (N.length - as.length) none) (L2.start N vs) := by
  have hl : as.length = vs.length := by have := e.len; simpa using this
  have key : ∀ (i : Nat) (x : Sl), (as ++ List.replicate (N.length - as.length) none)[i]? = some (some x) → as[i]? = some (some x) ∧ (L2.start N vs)[i]? = (vs.map some)[i]? := by
    intro i x q
    by_cases h : i < as.length
    · rw [List.getElem?_append_left h] at q
      refine ⟨q, ?_⟩
      unfold L2.start
      rw [List.getElem?_append_left (by simp; omega)]
    · rw [List.getElem?_append_right (by omega), List.getElem?_replicate] at q
      split at q
      · injection q with q; cases q
      · cases q
  refine ⟨⟨e.same, by simp [L2.start, hl], ?_, ?_, ?_⟩, .refl _, fun _ _ h => .inl h, fun _ _ h _ => h, ?_, ?_⟩
  · intro i d q
    obtain ⟨h1, h2⟩ := key i _ q
    rw [h2]; exact e.val i d h1
  · intro i d q
    obtain ⟨h1, h2⟩ := key i _ q
    rw [h2]; exact e.own i d h1
  · rintro i j b ⟨⟨x, q1⟩, q2⟩ ⟨⟨y, q3⟩, q4⟩
    obtain ⟨h1, h2⟩ := key i _ q1
    obtain ⟨h3, h4⟩ := key j _ q3
    rw [h2] at q2; rw [h4] at q4
    exact e.ne i j b ⟨⟨x, h1⟩, q2⟩ ⟨⟨y, h3⟩, q4⟩
  · rintro i b ⟨⟨x, q1⟩, q2⟩
    obtain ⟨h1, h2⟩ := key i _ q1
    rw [h2] at q2
    exact .inl ⟨⟨x, h1⟩, q2⟩
  · intro i d q
    have h : i < as.length := (List.getElem?_eq_some_iff.mp q).1
    refine ⟨⟨d, by rw [List.getElem?_append_left h]; exact q⟩, ?_⟩
    unfold L2.start
    rw [List.getElem?_append_left (by simp; omega)]
theorem StI.leave {vs : List V} {as : EV} {F0 H0 : Hp} (e : EnvR G F0 H0 as (vs.map some)) (s : StI G ⟨F0, H0, as, vs⟩ F H ρ σ) : Stp G F0 H0 as F H (outE as ρ) (vs.map some) := by
  have get : ∀ i : Nat, (outE as ρ)[i]? = (as[i]?).map fun x => match x with
      | some (.own _) => (ρ[i]?).getD none
      | x => x := fun i => by simp only [outE, List.getElem?_mapIdx]
  have mode : ∀ i : Nat, (∃ d d' : D, as[i]? = some (some (Sl.own d)) ∧ (outE as ρ)[i]? = some (some (Sl.own d')) ∧ ρ[i]? = some (some (Sl.own d')) ∧ σ[i]? = (vs.map some)[i]?) ∨ ((∀ d : D, as[i]? ≠ some (some (Sl.own d))) ∧ (outE as ρ)[i]? = as[i]?) := by
    intro i
    rw [get]
    cases z : as[i]? with
    | none => exact .inr ⟨by simp, rfl⟩
    | some x =>
      cases x with
      | none => exact .inr ⟨by simp, rfl⟩
      | some x =>
        cases x with
        | val d => exact .inr ⟨by simp, rfl⟩
        | own d =>
          obtain ⟨⟨d', k1⟩, k2⟩ := s.par i d z
          exact .inl ⟨d, d', rfl, by simp [k1], k1, k2⟩
  refine ⟨s.fr, ⟨s.env.same, by simp [outE, e.len], ?_, ?_, ?_⟩, s.new, s.keep, fun i => ?_⟩
  · intro i d q
    rcases mode i with ⟨x, x', h1, h2, h3, h4⟩ | ⟨h1, h2⟩
    · rw [h2] at q; injection q with q; cases q
    · rw [h2] at q
      obtain ⟨v, k1, k2⟩ := e.val i d q
      exact ⟨v, k1, k2.mono s.fr⟩
  · intro i d q
    rcases mode i with ⟨x, x', h1, h2, h3, h4⟩ | ⟨h1, h2⟩
    · rw [h2] at q; injection q with q; injection q with q; injection q with q; subst q
      rw [← h4]; exact s.env.own i _ h3
    · rw [h2] at q; exact (h1 d q).elim
  · rintro i j b ⟨⟨x, q1⟩, q2⟩ ⟨⟨y, q3⟩, q4⟩
    rcases mode i with ⟨x, x', h1, h2, h3, h4⟩ | ⟨h1, h2⟩
    · rcases mode j with ⟨z, z', k1, k2, k3, k4⟩ | ⟨k1, k2⟩
      · exact e.ne i j b ⟨⟨x, h1⟩, q2⟩ ⟨⟨z, k1⟩, q4⟩
      · rw [k2] at q3; exact (k1 y q3).elim
    · rw [h2] at q1; exact (h1 x q1).elim
  · rcases mode i with ⟨x, x', h1, h2, h3, h4⟩ | ⟨h1, h2⟩
    · exact .inl ⟨x, x', h1, h2⟩
    · exact .inr ⟨h1, h2⟩
end
end Fr
namespace Fr
open PySem L2
open PyProof.Rows (envOfC)
/-- a def's promise where no repr is under way -/
structure FnG (P : Program) (w : World) (K : PySem.W.Frag) (mg : Str → Option Value) (bs : Heap) (k : Nat) (f : Addr) (fd : FuncData) (ps : List Str) (sp : Sp) : Prop where
  len : ∀ vs H Q E, sp vs H Q E → vs.length = ps.length
  run : ∀ (A : Around) (out : List Env) (s : Shared) (H : Hp) (args : Args) (us : List Value) (vs : List V) (Q : VK) (E : XK), Room k A → A.guards = some [] → Env0 P w K mg bs A out s H →
    BindsTo s fd args (ps.zip us) → Vals vs us → sp vs H Q E → codeAny (model P w) A (.call (.ref f) args) (CR (L2.CX P w) out P w H s Q E) s
section
variable {P : Program} {w : World} {K : PySem.W.Frag} {mg : Str → Option Value} {bs : Heap}
theorem FnG.of {k : Nat} {f : Addr} {fd : FuncData} {ps : List Str} {sp : Sp} (h : FnOk P w K mg bs (L2.CX P w) k f fd ps sp) : FnG P w K mg bs k f fd ps sp := ⟨h.len, fun A out s H args us vs Q E hr _ e0 hb hv q => h.run A out s H args us vs Q E hr e0 hb hv q⟩
theorem FnG.mono {j k : Nat} {f : Addr} {fd : FuncData} {ps : List Str} {sp : Sp} (h : FnG P w K mg bs j f fd ps sp) (hk : j ≤ k) : FnG P w K mg bs k f fd ps sp := ⟨h.len, fun A out s H args us vs Q E hr hg e0 hb hv q => h.run A out s H args us vs Q E (hr.mono hk) hg e0 hb hv q⟩
theorem FnG.imp {k : Nat} {f : Addr} {fd : FuncData} {ps : List Str} {sp sp' : Sp} (h : FnG P w K mg bs k f fd ps sp) (hi : ∀ vs H Q E, sp' vs H Q E → sp vs H Q E) : FnG P w K mg bs k f fd ps sp' := ⟨fun vs H Q E q => h.len vs H Q E (hi _ _ _ _ q), fun A out s H args us vs Q E hr hg e0 hb hv q => h.run A out s H args us vs Q E hr hg e0 hb hv (hi _ _ _ _ q)⟩
/-- by the body -/
theorem fng_of {k : Nat} {f : Addr} {name qual : Str} {params : Arguments} {body : List Stmt} {scope : Scope} {dV kV doc pm cdv ct oc : Value} {an od : Option Addr} {osl : Array (Option Value)} {N ps : List Str} {sp : Sp}
    (lk : K.lookup f = some ⟨oc, od, .func (PySem.W.fnOf name qual params body scope dV kV doc pm an cdv ct), osl⟩) (hcd : PySem.W.codeIn K cdv qual = true) (S : FnScope N ps scope) (len : ∀ vs H Q E, sp vs H Q E → vs.length = ps.length)
    (hb : ∀ (A : Around) (out : List Env) (s : Shared) (H : Hp) (vs : List V) (Q : VK) (E : XK), Room k (A.deeper (envOfC qual scope s.heap.objs.size f cdv)) → A.guards = some [] → sp vs H Q E →
      ∃ t, PSs (cxOf (L2.CX P w) P w K mg bs N qual scope f cdv A out s H E) body t ∧ t { nx := fun _ H' => Q .non H', rt := Q } (L2.start N vs) H) :
    FnG P w K mg bs (k + 1) f (PySem.W.fnOf name qual params body scope dV kV doc pm an cdv ct) ps sp := by
  refine ⟨len, fun A out s H args us vs Q E hr hgd e0 hbi hv hsp => ?_⟩
  have old : ∀ b o, bs.get? b = some o → s.heap.get? b = some o := fun b o e => (e0.bs b o e).1
  have KX : K.In s.heap := e0.mod.kin.keeps old
  have lim : s.heap.NoLimit := e0.mod.nolimit.keeps old
  have kinds : ∀ y ∈ ps.zip us, scope.names.lookup y.1 = some .local ∨ (scope.names.lookup y.1 = some .cell ∧ ((PySem.cellsFrom (s.heap.objs.size + 1) scope.names []).lookup y.1).isSome = true) := by
    rintro ⟨z, v⟩ hy
    exact (S.par z (List.of_mem_zip hy).1).imp id fun q => ⟨q, PySem.W.cellsFrom_some _ _ _ (.inl q)⟩
  refine PySem.codeAny_call_function hr.depth (KX _ _ lk) rfl S.co S.gen rfl (PySem.W.codeRec_of KX hcd) (hbi _ _ _ _ ?_)
  refine PySem.wpAny_newFunctionEnv_cells S.kind kinds fun env he s1 x => ?_
  subst he
  refine ⟨lim.keeps x.toInCall.keep, PySem.codeAny_func ?_⟩
  obtain ⟨t, ht, hq⟩ := hb A out s H vs Q E (hr.deeper _) hgd hsp
  have I := inv_start (CX := L2.CX P w) (P := P) (w := w) (K := K) (mg := mg) (base := bs) (E := E) S hr.hd e0 (len _ _ _ _ hsp) hv x
  refine wpAny_mono (ht.run [] s1 _ H _ I hq) (fun fl s' hs => ?_) fun e s' hs => hs
  cases fl with
  | ret u => obtain ⟨v, σ', H', J, rv, q⟩ := hs; exact ⟨v, H', J.os, J.bare, J.base, J.hok, rv, q⟩
  | next => obtain ⟨σ', H', J, q⟩ := hs; exact ⟨V.non, H', J.os, J.bare, J.base, J.hok, rfl, q⟩
  | brk => obtain ⟨_, _, _, q⟩ := hs; exact q.elim
  | cont => obtain ⟨_, _, _, q⟩ := hs; exact q.elim
end
section
variable {X : Cx} {k : Nat} {f C : Addr} {fd : FuncData} {ps : List Str} {sp : Sp} {dvs : List V} {ds : List Value} {E : XK} {x m : Str} {p pos apos : Pos} {e o : Expr} {es : List Expr} {ta : TE} {t : TA}
/-- the callee runs -/
theorem run_g {pins : List (Addr × Obj)} {σ : St} {H : Hp} {s : Shared} {Q : VK} {us : List Value} {vs : List V} (F : FnG X.prog X.w X.K X.mg X.base k f fd ps sp) (hr : Room k X.A) (hgd : X.A.guards = some []) (hb : Binds X.K fd ps ds) (hd : Vals dvs ds) (hx : Passes (L2.CX X.prog X.w) X E)
    (I : Inv X pins σ H s) (r : Vals vs us) (h : sp (vs ++ dvs) H Q E) : wpAny (model X.prog X.w) X.A (call (.ref f) us) (EP X pins σ Q) X.xe s := by
  have hv := r.append hd
  have hn : (us ++ ds).length = ps.length := hv.length.symm.trans (F.len _ _ _ _ h)
  refine wpAny_call (codeAny_mono (F.run X.A X.stack s H ⟨us, []⟩ _ _ Q E hr hgd I.env0 (hb s us I.kIn hn) hv h) ?_)
  intro r s' hq
  match r with
  | .error e => exact hx pins σ H s e s' I hq
  | .ok (.ret u) => exact I.after hq
  | .ok .next => exact hq.elim
  | .ok .brk => exact hq.elim
  | .ok .cont => exact hq.elim
theorem peg_call (F : FnG X.prog X.w X.K X.mg X.base k f fd ps sp) (hr : Room k X.A) (hgd : X.A.guards = some []) (hg : Gl X x) (hm : X.mg x = some (.ref f)) (hk : PySem.W.keepIn X.K (.ref f) = true) (hb : Binds X.K fd ps ds) (hd : Vals dvs ds) (hx : Passes (L2.CX X.prog X.w) X E) (ha : PA X (e :: es) t)
    (hdb : (x == ("__debug__" : Str)) = false) (he : starEach (e :: es) X.env = (false, eval e X.env) :: starEach es X.env) (hpl : (backTo pos (starEach es X.env)).any (·.1) = false) : PE X (.Call (.Name x p) (e :: es) [] pos) (tCall sp dvs E t) :=
  ⟨fun pins s σ H Q I h => wpAny_Call_Name_kw (ld_glob I hg hm (PySem.W.callWith_K (h₀ := X.base) I.ok.mod.kin hk (thn (ha.run pos pins s σ H _ I h) fun us s1 ⟨vs, H1, I1, r, q⟩ => ⟨I1.kIn, run_g F hr hgd hb hd hx I1 r q⟩) he hpl) hdb)⟩
theorem peg_meth {pl : Sem Bool} (ho : PE X o ta) (c : Cls X.K C) (hm : Meth X.K C m f) (F : FnG X.prog X.w X.K X.mg X.base k f fd ps sp) (hr : Room k X.A) (hgd : X.A.guards = some []) (hb : Binds X.K fd ps ds) (hd : Vals dvs ds) (hx : Passes (L2.CX X.prog X.w) X E) (ha : PA X (e :: es) t)
    (hst : starEach (e :: es) X.env = (false, eval e X.env) :: starEach es X.env) (hpl : (backTo pos (starEach es X.env)).any (·.1) = false)
    (ht : eval (.Call (.Attribute o m apos) (e :: es) [] pos) X.env = (do let ov ← eval o X.env; standAt apos.atName; let (f, first) ← holding [ov] (getMethod ov m pl); callWith pos f first (backTo pos (starEach (e :: es) X.env)) (backToKw pos (keywordEach [] X.env)))) :
    PE X (.Call (.Attribute o m apos) (e :: es) [] pos) (tMeth C m sp dvs E ta t) := by
  refine ⟨fun pins s σ H Q I h => PySem.W.methodCall_KW (pl := pl) (thn (ho.run pins s σ H _ I h) fun u s1 hh => ?_) ht⟩
  obtain ⟨x, H1, I1, rx, a, dx, fs, rfl, ea, l, q⟩ := hh
  obtain rfl : u = Value.ref a := rx
  exact getmeth_ok I1 ea c hm l (PySem.W.callWith_K (first := [.ref a]) (h₀ := X.base) I.ok.mod.kin hm.kp (thn (ha.run pos pins s1 σ H1 _ I1 q) fun us s2 ⟨vs, H2, I2, r, q2⟩ => ⟨I2.kIn, run_g (us := .ref a :: us) (vs := .ref a :: vs) F hr hgd hb hd hx I2 (.cons rfl r) q2⟩) hst hpl)
theorem peg_meth0 {pl : Sem Bool} (ho : PE X o ta) (c : Cls X.K C) (hm : Meth X.K C m f) (F : FnG X.prog X.w X.K X.mg X.base k f fd ps sp) (hr : Room k X.A) (hgd : X.A.guards = some []) (hb : Binds X.K fd ps ds) (hd : Vals dvs ds) (hx : Passes (L2.CX X.prog X.w) X E)
    (ht : eval (.Call (.Attribute o m apos) [] [] pos) X.env = (do let ov ← eval o X.env; standAt apos.atName; let (f, first) ← holding [ov] (getMethod ov m pl); callWith pos f first (backTo pos (starEach [] X.env)) (backToKw pos (keywordEach [] X.env)))) :
    PE X (.Call (.Attribute o m apos) [] [] pos) (tMeth C m sp dvs E ta tNil) := by
  refine ⟨fun pins s σ H Q I h => PySem.W.methodCall_KW (pl := pl) (thn (ho.run pins s σ H _ I h) fun u s1 hh => ?_) ht⟩
  obtain ⟨x, H1, I1, rx, a, dx, fs, rfl, ea, l, q⟩ := hh
  obtain rfl : u = Value.ref a := rx
  exact getmeth_ok I1 ea c hm l (PySem.W.callWith_K0 (first := [.ref a]) I1.kIn hm.kp (run_g (us := [.ref a]) (vs := [.ref a]) F hr hgd hb hd hx I1 (.cons rfl .nil) q))
end
/-! ### the law's own call -/
section
open PySem.Spec PyProof.Rows
theorem law_g {P : Program} {w : World} {K : PySem.W.Frag} {mg mb : Str → Option Value} {k : Nat} {fa a : Addr} {fd : FuncData} {x : Str} {sp : Sp} {s₁ : Shared} {vs : List Value} {ns : List Int}
    (KX : K.In s₁.heap) (hns : s₁.heap.Ns mainGlobals mg) (hb : s₁.heap.Ns builtinsNs mb) (hbb : ∀ x : Str, x ≠ "__name__" → mb x = bootBuiltins x) (hlim : s₁.heap.NoLimit) (hg : s₁.gens = #[])
    (ha : s₁.heap.get? a = some { cls := .type "list", data := .seq vs.toArray }) (hi : IntsAre vs ns) (hl : ns.length ≤ sizeLine) (hr : Room k callerA)
    (Fl : ∀ bs : Heap, K.In bs → bs.Ns mainGlobals mg → FnG P w K mg bs k fa fd [x] sp) (hbind : ∀ (s : Shared) (u : Value), BindsTo s fd ⟨[u], []⟩ [(x, u)])
    (hsp : ∀ H : Hp, Only H → SqL K H a (ns.map V.int) → sp [.ref a] H (fun v _ => v = .bl true) E0) :
    codeAny (model P w) callerA (.call (.ref fa) ⟨[.ref a], []⟩) (fun r s' => r = .ok (.ret (.bool true)) ∧ OldK s₁.heap s'.heap ∧ s'.os = s₁.os ∧ AllBare s'.gens) s₁ := by
  -- the abstract heap: the script alone, or nothing where it is the module's own
  have main : ∀ H : Hp, Only H → SqL K H a (ns.map V.int) → HOk P w H s₁.heap → (∀ b, H b ≠ none → b = a ∧ K.lookup a = none) →
      codeAny (model P w) callerA (.call (.ref fa) ⟨[.ref a], []⟩) (fun r s' => r = .ok (.ret (.bool true)) ∧ OldK s₁.heap s'.heap ∧ s'.os = s₁.os ∧ AllBare s'.gens) s₁ := by
    intro H hO hS hok hA
    have seen : ∀ {b : Addr} {o : Obj}, s₁.heap.get? b = some o → (∀ vs', o.data ≠ .seq vs' 0) → H b = none := fun {b o} e d => by
      cases q : H b with
      | none => rfl
      | some u =>
        obtain ⟨rfl, _⟩ := hA b (by rw [q]; simp)
        rw [ha] at e
        cases e
        exact (d _ rfl).elim
    have names : ∀ {b : Addr} {m : Str → Option Value}, s₁.heap.Ns b m → (hidT s₁.heap H).Ns b m := fun {b m} z => by
      obtain ⟨o, es, ep, e, d, r⟩ := z
      exact ⟨o, es, ep, hidT_get e (seen e fun vs' y => by rw [d] at y; cases y), d, r⟩
    have kin : K.In (hidT s₁.heap H) := fun b o e => hidT_get (KX b o e) (by
      cases q : H b with
      | none => rfl
      | some u =>
        obtain ⟨rfl, z⟩ := hA b (by rw [q]; simp)
        rw [z] at e; cases e)
    have md : Mod K mg (hidT s₁.heap H) := ⟨kin, names hns, ⟨mb, names hb, hbb⟩, by obtain ⟨mc, h1, h2⟩ := hlim; exact ⟨mc, names h1, h2⟩⟩
    have e0 : Env0 P w K mg (hidT s₁.heap H) callerA [] s₁ H := ⟨rfl, md, fun b o e => of_hidT e, Nat.le_of_eq (hidT_size _ _), trivial, fun b hb => absurd (show b ∈ ([] : List Addr) from hb) List.not_mem_nil, hok, .of_eq hg⟩
    refine codeAny_mono ((Fl _ kin (names hns)).run callerA [] s₁ H ⟨[.ref a], []⟩ [.ref a] [.ref a] _ _ hr rfl e0 (hbind s₁ (.ref a)) (.cons rfl .nil) (hsp H hO hS)) ?_
    intro r s' h
    match r with
    | .error e => obtain ⟨_, _, _, _, _, _, _, _, _, _, _, _, z⟩ := h; exact z.elim
    | .ok .next => exact h.elim
    | .ok .brk => exact h.elim
    | .ok .cont => exact h.elim
    | .ok (.ret u) =>
      obtain ⟨v, H', os, bare, un, hok', r', q⟩ := h
      have qv : v = .bl true := q
      subst qv
      have ru : u = Value.bool true := r'
      subst ru
      refine ⟨rfl, OldK.of_keep fun b o e => ?_, os, bare⟩
      rcases hO b with z | ⟨ob, xs, z⟩
      · exact un.keep b o e z (by intro y; cases y) (by intro y; cases y)
      · have k1 := (hok b _ z).1
        have k2 := (hok' b _ (un.frzs b ob _ z)).1
        rw [e] at k1
        injection k1 with k1
        rw [k1]; exact k2
  have rv := vals_ints hi
  cases hk : K.lookup a with
  | some o =>
    have e := KX a o hk
    rw [ha] at e
    injection e with e
    subst e
    exact main (fun _ => none) (fun _ => .inl rfl) (.inr ⟨_, vs.toArray, _, hk, rfl, rfl, rfl, by have z := hi.length; rw [List.size_toArray]; omega, by simpa using rv⟩) (fun b u z => nomatch z) fun b z => (z rfl).elim
  | none =>
    have fr : ∀ b, (upd (fun _ => none) a (.frz { cls := .type "list", data := .seq vs.toArray } (.lst (ns.map V.int))) : Hp) b ≠ none → b = a := fun b z => by
      by_cases q : b = a
      · exact q
      · rw [upd_ne q] at z; exact (z rfl).elim
    refine main (upd (fun _ => none) a (.frz { cls := .type "list", data := .seq vs.toArray } (.lst (ns.map V.int)))) (fun b => ?_) (.inl (.inr ⟨_, upd_same⟩)) (fun b u z => ?_) fun b z => ⟨fr b z, hk⟩
    · by_cases q : b = a
      · subst q; exact .inr ⟨_, _, upd_same⟩
      · exact .inl (upd_ne q)
    · have q : b = a := fr b (by rw [z]; simp)
      subst q
      rw [upd_same] at z
      injection z with z
      subst z
      exact ⟨ha, by simpa using hl, vs, _, rv, ha⟩
theorem walk_g {l : PySem.W.OpenLaw} {n k : Nat} {q : Program} {loose : List Str} {XP : (Str → Option Value) → Heap → Prop} {YP : World → Heap → Prop} {d : DefRec} {K : Params → PySem.W.Frag} {sp : World → Sp} {x : Str}
    (hn : l.most = some n) (hn2 : n ≤ sizeLine) (hdf : d.params.defaults = []) (hr : Room k callerA) (hY : ∀ (w : World) (h : Heap), YP w h → (K w.params).In h)
    (Fl : ∀ (w : World) (mg : Str → Option Value) (fa : Addr) (h : Heap), (K w.params).In h → h.Ns mainGlobals mg → mg d.name = some (.ref fa) →
      ∃ fd : FuncData, (∀ (s : Shared) (u : Value), BindsTo s fd ⟨[u], []⟩ [(x, u)]) ∧ ∀ bs : Heap, (K w.params).In bs → bs.Ns mainGlobals mg → FnG l.prog w (K w.params) mg bs k fa fd [x] (sp w))
    (hsp : ∀ (w : World) (H : Hp) (a : Addr) (ns : List Int), ns.length ≤ n → Only H → SqL (K w.params) H a (ns.map V.int) → sp w [.ref a] H (fun v _ => v = .bl true) E0) :
    PySem.W.WalkO q loose XP YP l.row.toRowW d [] (fun f vs => PySem.call f vs) := by
  refine _root_.Att.attach_call hn hdf ?_
  intro w s₀ s₁ mg mb fa o pm cd doc a vs ns G Y ho hd hcd hmg hobj hints hlen hg
  obtain ⟨fd, h1, h2⟩ := Fl w mg fa _ (hY w _ Y) G.T.g hmg
  exact law_g (hY w _ Y) G.T.g G.T.b G.T.builtins G.T.nolimit hg hobj hints (Nat.le_trans hlen hn2) hr h2 h1 fun H hO hS => hsp w H a ns hlen hO hS
end
end Fr
namespace Fr
open PySem L2
/-- a def that may be called by its name -/
structure Fd (P : Program) (w : World) (K : PySem.W.Frag) (mg : Str → Option Value) (bs : Heap) (cl : Str → Addr) (x : Str) (k : Nat) (mf : Mf) (dds : List D) (dvs : List V) : Prop where
  ex : ∃ (f : Addr) (fd : FuncData) (ps : List Str) (ds : List Value), FnG P w K mg bs k f fd ps (SpF ⟨K, cl⟩ mf) ∧ mg x = some (.ref f) ∧ PySem.W.keepIn K (.ref f) = true ∧ Binds K fd ps ds ∧ Vals dvs ds ∧ ∀ F, Rs ⟨K, cl⟩ F dds dvs
/-- the built-ins' names are not the module's -/
structure Bn (mg : Str → Option Value) : Prop where
  len : mg "len" = none
  range : mg "range" = none
  isinstance : mg "isinstance" = none
  all : mg "all" = none
  any : mg "any" = none
  tuple : mg "tuple" = none
  list : mg "list" = none
  sorted : mg "sorted" = none
  set : mg "set" = none
  sum : mg "sum" = none
  repr : mg "repr" = none
  int : mg "int" = none
  abs : mg "abs" = none
  max : mg "max" = none
  min : mg "min" = none
  enumerate : mg "enumerate" = none
  zip : mg "zip" = none
  str : mg "str" = none
  bool : mg "bool" = none
  dict : mg "dict" = none
section
variable {X : Cx} {K : PySem.W.Frag} {cl : Str → Addr} {E : XK} {kk : Nat} {e : Expr} {es : List Expr} {pos p : Pos} {x : Str} {t : TA} {m : EV → Out (List Rv × EV)}
theorem se_fn {k : Nat} {mf : Mf} {dds : List D} {dvs : List V} (C : Cw X K E kk) (h : Fd X.prog X.w K X.mg X.base cl x k mf dds dvs) (ha : SA X K cl E (e :: es) t m) (hk : k ≤ kk := by decide) (hg : Gl X x := by rfl) (hdb : (x == ("__debug__" : Str)) = false := by decide)
    (he : starEach (e :: es) X.env = (false, eval e X.env) :: starEach es X.env := by rfl) (hpl : (backTo pos (starEach es X.env)).any (·.1) = false := by rfl) :
    SE X K cl E (.Call (.Name x p) (e :: es) [] pos) (tCall (SpF ⟨K, cl⟩ mf) dvs E t) (mFn mf dds m) := by
  obtain ⟨kq, room, gd, calm, pass⟩ := C
  subst kq
  obtain ⟨f, fd, ps, ds, F, hm, kp, b, hd, hdd⟩ := h.ex
  exact ⟨peg_call F (room.mono hk) gd hg hm kp b hd pass ha.1 hdb he hpl, md_fn hdd ha.2⟩
end
section
variable {P : Program} {w : World} {K : PySem.W.Frag} {mg : Str → Option Value} {bs : Heap} {cl : Str → Addr}
theorem fun_g {x qual : Str} {st : Stmt} {f : Addr} {fd : FuncData} {N ps : List Str} {k : Nat} {mb : EV → Out (Fl × EV)} (Fu : Fun K x qual st f fd) (S : FnScope N ps (defScope st))
    (hbody : ∀ (cdv : Value) (A : Around) (out : List Env) (s : Shared) (H : Hp) (E : XK), Cw (cxOf (L2.CX P w) P w K mg bs N qual (defScope st) f cdv A out s H E) K E k →
      ∃ t, SB (cxOf (L2.CX P w) P w K mg bs N qual (defScope st) f cdv A out s H E) K cl E ps.length (defBody st) t mb) : FnG P w K mg bs (k + 1) f fd ps (SpF ⟨K, cl⟩ (runF ps.length N.length mb)) := by
  obtain ⟨oc, od, kV, doc, pm, an, cdv, ct, osl, rfl, lk, hcd⟩ := Fu.ex
  refine fng_of lk hcd S (fun vs H Q E h => ?_) (fun A out s H vs Q E hr hgd h => ?_)
  · obtain ⟨F, as, e, _, p⟩ := h
    have hl : as.length = vs.length := by have := e.len; simpa using this
    unfold runF at p
    by_cases q : as.length = ps.length
    · omega
    · rw [if_neg q] at p; exact p.elim
  · obtain ⟨F, as, e, _, p⟩ := h
    obtain ⟨t, h1, h2⟩ := hbody cdv A out s H E ⟨rfl, hr, hgd, rfl, passes_call (takes_of rfl rfl rfl rfl) fun _ _ _ _ z => z⟩
    refine ⟨t, h1, ?_⟩
    have hl : as.length = vs.length := by have := e.len; simpa using this
    unfold runF at p
    by_cases q : as.length = ps.length
    · rw [if_pos q] at p
      refine h2 ⟨F, H, as, vs⟩ F H _ _ _ q (StI.start (N := N) e) ?_
      rw [q]
      revert p
      cases mb (as ++ List.replicate (N.length - ps.length) none) with
      | bad => exact id
      | ex c fs ρ => exact fun p F' H' σ' cls dd s' x => p F' H' cls dd (s'.leave e) x
      | ok y =>
        obtain ⟨fl, ρ⟩ := y
        cases fl with
        | brk => exact False.elim
        | cont => exact False.elim
        | next => exact fun p F' H' σ' s' => p F' H' .non (s'.leave e) .non
        | ret r => exact fun p F' H' σ' v s' rr => p F' H' v (s'.leave e) (by
            cases r with
            | val d => exact rr
            | own d => exact rr
            | ref i => exact rr.elim)
    · rw [if_neg q] at p; exact p.elim
/-- the loops of a def let what is raised pass -/
theorem own_passes {qual : Str} {sc : Scope} {f : Addr} {N : List Str} {cdv : Value} {A : Around} {out : List Env} {s : Shared} {H : Hp} {E : XK} : PassesOwn (model P w) (cxOf (L2.CX P w) P w K mg bs N qual sc f cdv A out s H E).A (cxOf (L2.CX P w) P w K mg bs N qual sc f cdv A out s H E).env (cxOf (L2.CX P w) P w K mg bs N qual sc f cdv A out s H E).xe :=
  passes_of (X := cxOf (L2.CX P w) P w K mg bs N qual sc f cdv A out s H E) rfl
end
end Fr
namespace Fr
open PySem L2
/-! ### data without dicts -/
section
variable {G : Gx} {F H : Hp}
mutual
theorem R.dp (s : Same F H) : ∀ {d : D} {v : V}, R G F d v → d.canLay0 = true → Dp G.K H v d
  | _, _, .non, _ => .non
  | _, _, .bl b, _ => .bl b
  | _, _, .int i, _ => .int i
  | _, _, .str x, _ => .str x
  | _, _, .lst h r, c => .lst (.of (s _ _ h)) (Rs.dp s r (by simpa [PyData.canLay0] using c))
  | _, _, .tup h r, c => .tup (sqT_same s h.sq) (Rs.dp s r (by simpa [PyData.canLay0] using c))
  | _, _, .dK h r, c => by simp [PyData.canLay0] at c
  | _, _, .dT h r, c => by simp [PyData.canLay0] at c
  | _, _, .obj h r, c => by simp [PyData.canLay0] at c
  | _, _, .scr h, c => by simp [PyData.canLay0] at c
  | _, _, .dL h r, c => by simp [PyData.canLay0] at c
  | _, _, .dU h r, c => by simp [PyData.canLay0] at c
theorem Rs.dp (s : Same F H) : ∀ {ds : List D} {vs : List V}, Rs G F ds vs → PyData.canLayAll0 ds = true → DpAll G.K H vs ds
  | _, _, .nil, _ => .nil
  | _, _, .cons h r, c => by
    rw [PyData.canLayAll0, Bool.and_eq_true] at c
    exact .cons (R.dp s h c.1) (Rs.dp s r c.2)
end
theorem Rd.dp (s : Same F H) {d : D} {v : V} (h : Rd G F H d v) (c : d.canLay0 = true) : Dp G.K H v d := by
  cases d with
  | none => cases h; exact .non
  | bool b => cases h; exact .bl b
  | int i => cases h; exact .int i
  | str x => cases h; exact .str x
  | list ds => obtain ⟨a, xs, rfl, q, r⟩ := h; exact .lst (.of q) (r.dp s (by simpa [PyData.canLay0] using c))
  | tuple ds => obtain ⟨a, xs, rfl, q, r⟩ := h; exact .tup (sqT_same s q.sq) (r.dp s (by simpa [PyData.canLay0] using c))
  | dict es => simp [PyData.canLay0] at c
theorem okS_val {Q : VK} {d : D} {v : V} (s : Same F H) (h : okS G F H Q (some (.val d))) (r : R G F d v) : Q v H := h F H v (.refl s) r
theorem okS_list {Q : VK} {ds : List D} {vs : List V} (s : Same F H) (h : okS G F H Q (some (.own (.list ds)))) (r : Rs G F ds vs) {p : Addr} (n : H p = none) : Q (.ref p) (upd H p (.lst vs)) :=
  h F _ _ (.beside s n) ⟨p, rfl, s.free n, n, vs, upd_same, r⟩
theorem okS_tup {Q : VK} {ds : List D} {vs : List V} (s : Same F H) (hw : stD ds = false) (h : okS G F H Q (some (.val (.tuple ds)))) (r : Rs G F ds vs) {p : Addr} (n : H p = none) : Q (.ref p) (upd H p (.tup vs)) :=
  h _ _ _ (.put s n) (.tup (.inl ⟨hw, upd_same⟩) (r.mono (Grow.put (F := F) s n).fr))
theorem okS_tupF {Q : VK} {ds : List D} {vs : List V} (s : Same F H) (hw : stD ds = true) (h : okS G F H Q (some (.val (.tuple ds)))) (r : Rs G F ds vs) {p : Addr} (n : H p = none) {o : Obj} (ho : o.dict = none) : Q (.ref p) (upd H p (.frz o (.tup vs))) :=
  h _ _ _ (.put s n) (.tup (.inr ⟨hw, o, ho, upd_same⟩) (r.mono (Grow.put (F := F) s n).fr))
end
/-! ### == and != -/
def eqD0 (d e : D) : Option Sl := if (SeqAt.shaped d && SeqAt.shaped e) = true then some (.val (.bool (PyData.eqv d e))) else none
def neD0 (d e : D) : Option Sl := if (SeqAt.shaped d && SeqAt.shaped e) = true then some (.val (.bool (!PyData.eqv d e))) else none
section
variable {G : Gx} {X : Cx} {K : PySem.W.Frag} {cl : Str → Addr} {E : XK} {kk : Nat}
theorem v_eq0 : Op2 G (rEqD G.K) eqD0 := fun F H d e x y Q s rx ry h => by
  unfold eqD0 at h
  by_cases q : (SeqAt.shaped d && SeqAt.shaped e) = true
  · rw [if_pos q] at h
    obtain ⟨q1, q2⟩ := Bool.and_eq_true_iff.mp q
    exact ⟨d, e, rx.dp s (SeqAt.canLay_of_shaped q1), ry.dp s (SeqAt.canLay_of_shaped q2), q1, q2, okS_val s h (.bl _)⟩
  · rw [if_neg q] at h; exact h.elim
theorem v_ne0 : Op2 G (rNeD G.K) neD0 := fun F H d e x y Q s rx ry h => by
  unfold neD0 at h
  by_cases q : (SeqAt.shaped d && SeqAt.shaped e) = true
  · rw [if_pos q] at h
    obtain ⟨q1, q2⟩ := Bool.and_eq_true_iff.mp q
    exact ⟨d, e, rx.dp s (SeqAt.canLay_of_shaped q1), ry.dp s (SeqAt.canLay_of_shaped q2), q1, q2, okS_val s h (.bl _)⟩
  · rw [if_neg q] at h; exact h.elim
theorem Cw.u64 (C : Cw X K E kk) : X.A.units + 64 < cLine := C.room.units
theorem Cw.u65 (C : Cw X K E kk) : X.A.units + 65 < cLine := by have := C.room.un; omega
/-! ### ints -/
def ltD : D → D → Option Sl
  | .int i, .int j => some (.val (.bool (decide (i < j))))
  | _, _ => none
def leD : D → D → Option Sl
  | .int i, .int j => some (.val (.bool (decide (i ≤ j))))
  | _, _ => none
def gtD : D → D → Option Sl
  | .int i, .int j => some (.val (.bool (decide (j < i))))
  | _, _ => none
def geD : D → D → Option Sl
  | .int i, .int j => some (.val (.bool (decide (j ≤ i))))
  | _, _ => none
theorem v_int2 {f : D → D → Option Sl} {g : Int → Int → V} {g' : Int → Int → D} (hf : ∀ i j, f (.int i) (.int j) = some (.val (g' i j))) (hn : ∀ d e, (∀ i j, ¬ (d = .int i ∧ e = .int j)) → f d e = none) (hr : ∀ F i j, R G F (g' i j) (g i j)) : Op2 G (rI0 g) f := fun F H d e x y Q s rx ry h => by
  by_cases q : ∃ i j, d = .int i ∧ e = .int j
  · obtain ⟨i, j, rfl, rfl⟩ := q
    rw [hf] at h
    exact ⟨i, j, rx, ry, okS_val s h (hr F i j)⟩
  · rw [hn d e fun i j z => q ⟨i, j, z⟩] at h; exact h.elim
theorem v_lt : Op2 G (rI0 fun i j => .bl (decide (i < j))) ltD := v_int2 (fun _ _ => rfl) (fun d e h => by cases d <;> cases e <;> first | rfl | exact (h _ _ ⟨rfl, rfl⟩).elim) fun _ _ _ => .bl _
theorem v_le : Op2 G (rI0 fun i j => .bl (decide (i ≤ j))) leD := v_int2 (fun _ _ => rfl) (fun d e h => by cases d <;> cases e <;> first | rfl | exact (h _ _ ⟨rfl, rfl⟩).elim) fun _ _ _ => .bl _
theorem v_gt : Op2 G (rI0 fun i j => .bl (decide (j < i))) gtD := v_int2 (fun _ _ => rfl) (fun d e h => by cases d <;> cases e <;> first | rfl | exact (h _ _ ⟨rfl, rfl⟩).elim) fun _ _ _ => .bl _
theorem v_ge : Op2 G (rI0 fun i j => .bl (decide (j ≤ i))) geD := v_int2 (fun _ _ => rfl) (fun d e h => by cases d <;> cases e <;> first | rfl | exact (h _ _ ⟨rfl, rfl⟩).elim) fun _ _ _ => .bl _
/-- two rules for one operation -/
theorem Op2.or {r r' : R2} {f g : D → D → Option Sl} (h : Op2 G r f) (k : Op2 G r' g) : Op2 G (fun x y H Q => r x y H Q ∨ r' x y H Q) (fun d e => (f d e).or (g d e)) := fun F H d e x y Q s rx ry q => by
  dsimp only at q
  cases z : f d e with
  | some sl => rw [z] at q; exact .inl (h F H d e x y Q s rx ry (by rw [z]; exact q))
  | none => rw [z] at q; exact .inr (k F H d e x y Q s rx ry q)
theorem OpN.or {r r' : List V → Hp → VK → Prop} {f g : List D → Option Sl} (h : OpN G r f) (k : OpN G r' g) : OpN G (fun x H Q => r x H Q ∨ r' x H Q) (fun d => (f d).or (g d)) := fun F H d x Q s rx q => by
  dsimp only at q
  cases z : f d with
  | some sl => rw [z] at q; exact .inl (h F H d x Q s rx (by rw [z]; exact q))
  | none => rw [z] at q; exact .inr (k F H d x Q s rx q)
/-! + -/
def addI : D → D → Option Sl
  | .int i, .int j => some (.val (.int (i + j)))
  | _, _ => none
def addS : D → D → Option Sl
  | .str x, .str y => if x.length + y.length ≤ sizeLine then some (.val (.str (x ++ y))) else none
  | _, _ => none
def addL : D → D → Option Sl
  | .list xs, .list ys => if xs.length + ys.length ≤ sizeLine then some (.own (.list (xs ++ ys))) else none
  | _, _ => none
def addT : D → D → Option Sl
  | .tuple xs, .tuple ys => if xs.length + ys.length ≤ sizeLine ∧ (xs = [] ∨ ys = [] ∨ stD (xs ++ ys) = false) then some (.val (.tuple (xs ++ ys))) else none
  | _, _ => none
def addD (d e : D) : Option Sl := (addI d e).or ((addS d e).or ((addL d e).or (addT d e)))
theorem v_addI : Op2 G (rI0 fun i j => .int (i + j)) addI := v_int2 (fun _ _ => rfl) (fun d e h => by cases d <;> cases e <;> first | rfl | exact (h _ _ ⟨rfl, rfl⟩).elim) fun _ _ _ => .int _
theorem v_addS : Op2 G (fun x y H Q => ∃ i j, x = .str i ∧ y = .str j ∧ i.length + j.length ≤ sizeLine ∧ Q (.str (i ++ j)) H) addS := fun F H d e x y Q s rx ry h => by
  cases d <;> cases e <;> first | exact h.elim | skip
  rename_i a b
  simp only [addS] at h
  by_cases q : a.length + b.length ≤ sizeLine
  · rw [if_pos q] at h; exact ⟨a, b, rx, ry, q, okS_val s h (.str _)⟩
  · rw [if_neg q] at h; exact h.elim
theorem v_addL : Op2 G rCat addL := fun F H d e x y Q s rx ry h => by
  cases d <;> cases e <;> first | exact h.elim | skip
  rename_i a b
  simp only [addL] at h
  by_cases q : a.length + b.length ≤ sizeLine
  · rw [if_pos q] at h
    obtain ⟨p1, xs, rfl, h1, r1⟩ := rx
    obtain ⟨p2, ys, rfl, h2, r2⟩ := ry
    exact ⟨p1, p2, xs, ys, rfl, rfl, h1, h2, by rw [r1.length, r2.length]; exact q, fun p n => okS_list s h (r1.append r2) n⟩
  · rw [if_neg q] at h; exact h.elim
theorem v_addT : Op2 G (rCatA G.K) addT := fun F H d e x y Q s rx ry h => by
  cases d <;> cases e <;> first | exact h.elim | skip
  rename_i a b
  simp only [addT] at h
  by_cases q : a.length + b.length ≤ sizeLine ∧ (a = [] ∨ b = [] ∨ stD (a ++ b) = false)
  · rw [if_pos q] at h
    obtain ⟨p1, xs, rfl, h1, r1⟩ := rx
    obtain ⟨p2, ys, rfl, h2, r2⟩ := ry
    refine ⟨p1, p2, xs, ys, rfl, rfl, sqT_same s h1.sq, sqT_same s h2.sq, by rw [r1.length, r2.length]; exact q.1, ?_, ?_, ?_⟩
    · intro e
      subst e
      cases r1
      exact okS_val s h (.tup h2 r2)
    · intro _ e
      subst e
      cases r2
      rw [List.append_nil] at h
      exact okS_val s h (.tup h1 r1)
    · intro na nb p n
      refine okS_tup s ?_ h (r1.append r2) n
      rcases q.2 with z | z | z
      · subst z; cases r1; exact (na rfl).elim
      · subst z; cases r2; exact (nb rfl).elim
      · exact z
  · rw [if_neg q] at h; exact h.elim
theorem or_add (C : Cw X K E kk) : OpR X (binaryOp .Add) (fun x y H Q => rI0 (fun i j => .int (i + j)) x y H Q ∨ (∃ i j, x = .str i ∧ y = .str j ∧ i.length + j.length ≤ sizeLine ∧ Q (.str (i ++ j)) H) ∨ rCat x y H Q ∨ rCatA K x y H Q) := C.kq ▸ op_add.or (op_add_str.or (op_cat.or op_catA))
theorem v_add : Op2 ⟨K, cl⟩ (fun x y H Q => rI0 (fun i j => .int (i + j)) x y H Q ∨ (∃ i j, x = .str i ∧ y = .str j ∧ i.length + j.length ≤ sizeLine ∧ Q (.str (i ++ j)) H) ∨ rCat x y H Q ∨ rCatA K x y H Q) addD := v_addI.or (v_addS.or (v_addL.or v_addT))
/-! ints: - * // % ** -/
def subD : D → D → Option Sl
  | .int i, .int j => some (.val (.int (i - j)))
  | _, _ => none
theorem v_sub : Op2 G (rI0 fun i j => .int (i - j)) subD := v_int2 (fun _ _ => rfl) (fun d e h => by cases d <;> cases e <;> first | rfl | exact (h _ _ ⟨rfl, rfl⟩).elim) fun _ _ _ => .int _
theorem v_intC {C : Int → Int → Prop} [∀ i j, Decidable (C i j)] {f : D → D → Option Sl} {g : Int → Int → Int} (hf : ∀ i j, f (.int i) (.int j) = if C i j then some (.val (.int (g i j))) else none) (hn : ∀ d e, (∀ i j, ¬ (d = .int i ∧ e = .int j)) → f d e = none) : Op2 G (rI C fun i j => .int (g i j)) f := fun F H d e x y Q s rx ry h => by
  by_cases q : ∃ i j, d = .int i ∧ e = .int j
  · obtain ⟨i, j, rfl, rfl⟩ := q
    rw [hf] at h
    by_cases c : C i j
    · rw [if_pos c] at h; exact ⟨i, j, rx, ry, c, okS_val s h (.int _)⟩
    · rw [if_neg c] at h; exact h.elim
  · rw [hn d e fun i j z => q ⟨i, j, z⟩] at h; exact h.elim
instance (i j : Int) : Decidable (CMulW i j) := by unfold CMulW; infer_instance
instance (i j : Int) : Decidable (CDivW i j) := by unfold CDivW; infer_instance
instance (i j : Int) : Decidable (CPow i j) := by unfold CPow; infer_instance
def mulI : D → D → Option Sl
  | .int i, .int j => if CMulW i j then some (.val (.int (i * j))) else none
  | _, _ => none
def divD : D → D → Option Sl
  | .int i, .int j => if CDivW i j then some (.val (.int (i / j))) else none
  | _, _ => none
def modD : D → D → Option Sl
  | .int i, .int j => if 0 < j then some (.val (.int (i % j))) else none
  | _, _ => none
def powD : D → D → Option Sl
  | .int i, .int j => if CPow i j then some (.val (.int (i ^ j.toNat))) else none
  | _, _ => none
theorem v_mulI : Op2 G (rI CMulW fun i j => .int (i * j)) mulI := v_intC (fun _ _ => rfl) fun d e h => by cases d <;> cases e <;> first | rfl | exact (h _ _ ⟨rfl, rfl⟩).elim
theorem v_div : Op2 G (rI CDivW fun i j => .int (i / j)) divD := v_intC (fun _ _ => rfl) fun d e h => by cases d <;> cases e <;> first | rfl | exact (h _ _ ⟨rfl, rfl⟩).elim
theorem v_mod : Op2 G (rI (fun _ j => 0 < j) fun i j => .int (i % j)) modD := v_intC (fun _ _ => rfl) fun d e h => by cases d <;> cases e <;> first | rfl | exact (h _ _ ⟨rfl, rfl⟩).elim
def mulL : D → D → Option Sl
  | .list xs, .int k => if -(2 ^ 63) ≤ k ∧ k < 2 ^ 63 ∧ xs.length * k.toNat ≤ sizeLine then some (.own (.list (List.replicate k.toNat xs).flatten)) else none
  | _, _ => none
theorem Rs.rep {F : Hp} {ds : List D} {vs : List V} (h : Rs G F ds vs) : ∀ k : Nat, Rs G F (List.replicate k ds).flatten (List.replicate k vs).flatten
  | 0 => .nil
  | k + 1 => by rw [List.replicate_succ, List.replicate_succ, List.flatten_cons, List.flatten_cons]; exact h.append (Rs.rep h k)
theorem v_mulL : Op2 G rRep mulL := fun F H d e x y Q s rx ry h => by
  cases d <;> cases e <;> first | exact h.elim | skip
  rename_i xs k
  simp only [mulL] at h
  by_cases q : -(2 ^ 63) ≤ k ∧ k < 2 ^ 63 ∧ xs.length * k.toNat ≤ sizeLine
  · rw [if_pos q] at h
    obtain ⟨p1, ys, rfl, h1, r1⟩ := rx
    exact ⟨p1, k, ys, rfl, ry, h1, q.1, q.2.1, by rw [r1.length]; exact q.2.2, fun p n => okS_list s h (r1.rep _) n⟩
  · rw [if_neg q] at h; exact h.elim
def mulD (d e : D) : Option Sl := (mulI d e).or (mulL d e)
theorem or_mul : OpR X (binaryOp .Mult) (fun x y H Q => rI CMulW (fun i j => .int (i * j)) x y H Q ∨ rRep x y H Q) := op_mulW.or op_rep
theorem v_mul : Op2 G (fun x y H Q => rI CMulW (fun i j => .int (i * j)) x y H Q ∨ rRep x y H Q) mulD := v_mulI.or v_mulL
/-! is None, is not None, is True .. -/
def isNone : D → Bool
  | .none => true
  | _ => false
def isN : D → D → Option Sl
  | d, .none => some (.val (.bool (isNone d)))
  | _, _ => none
theorem Rd.non {F H : Hp} {d : D} {v : V} (h : Rd G F H d v) : decide (v = .non) = isNone d := by
  cases d with
  | none => cases h; rfl
  | bool b => cases h; rfl
  | int b => cases h; rfl
  | str b => cases h; rfl
  | list ds => obtain ⟨a, xs, rfl, _⟩ := h; rfl
  | tuple ds => obtain ⟨a, xs, rfl, _⟩ := h; rfl
  | dict ds => obtain ⟨a, rfl, _⟩ := h; rfl
/-! in, not in -/
def inS : D → D → Option Sl
  | .str c, .str z => match c.cps with
    | ⟨[k]⟩ => some (.val (.bool (decide (k ∈ z.cps.toList))))
    | _ => none
  | _, _ => none
/-! subscripts -/
def ixL : D → D → Option Sl
  | .list xs, .int i => (atI xs i).map .val
  | _, _ => none
def ixT : D → D → Option Sl
  | .tuple xs, .int i => (atI xs i).map .val
  | _, _ => none
def ixS : D → D → Option Sl
  | .str z, .int i => if z.length ≤ sizeLine then (atI z.cps.toList i).map fun c => .val (.str ⟨#[c]⟩) else none
  | _, _ => none
def ixD (d e : D) : Option Sl := (ixL d e).or ((ixT d e).or (ixS d e))
theorem atI_rs {F : Hp} {ds : List D} {vs : List V} (r : Rs G F ds vs) {i : Int} {d : D} (h : atI ds i = some d) : ∃ v, atI vs i = some v ∧ R G F d v := by
  unfold atI at h ⊢
  rw [r.length]
  cases q : ixN ds.length i with
  | none => rw [q] at h; cases h
  | some j =>
    rw [q] at h
    exact r.getD h
theorem v_ixL : Op2 G (rIxL G.K) ixL := fun F H d e x y Q s rx ry h => by
  cases d <;> cases e <;> first | exact h.elim | skip
  rename_i xs i
  obtain ⟨p1, ys, rfl, h1, r1⟩ := rx
  simp only [ixL] at h
  cases q : atI xs i with
  | none => rw [q] at h; exact h.elim
  | some d =>
    rw [q] at h
    obtain ⟨v, k1, k2⟩ := atI_rs r1 q
    exact ⟨p1, ys, i, v, rfl, ry, .of h1, k1, okS_val s h k2⟩
theorem v_ixT : Op2 G (rIxT G.K) ixT := fun F H d e x y Q s rx ry h => by
  cases d <;> cases e <;> first | exact h.elim | skip
  rename_i xs i
  obtain ⟨p1, ys, rfl, h1, r1⟩ := rx
  simp only [ixT] at h
  cases q : atI xs i with
  | none => rw [q] at h; exact h.elim
  | some d =>
    rw [q] at h
    obtain ⟨v, k1, k2⟩ := atI_rs r1 q
    exact ⟨p1, ys, i, v, rfl, ry, sqT_same s h1.sq, k1, okS_val s h k2⟩
theorem v_ixS : Op2 G rIxS ixS := fun F H d e x y Q s rx ry h => by
  cases d <;> cases e <;> first | exact h.elim | skip
  rename_i z i
  simp only [ixS] at h
  by_cases hz : z.length ≤ sizeLine
  · rw [if_pos hz] at h
    cases q : atI z.cps.toList i with
    | none => rw [q] at h; exact h.elim
    | some c => rw [q] at h; exact ⟨z, i, c, rx, ry, hz, q, okS_val s h (.str _)⟩
  · rw [if_neg hz] at h; exact h.elim
theorem v_ix : Op2 G (rIx G.K) ixD := v_ixL.or (v_ixT.or v_ixS)
/-! slices -/
def cutD (xs : List D) (lo hi : Option Int) : List D := (xs.drop (HT.sIx xs.length 0 lo)).take (HT.sIx xs.length xs.length hi - HT.sIx xs.length 0 lo)
theorem Rs.cut {F : Hp} {ds : List D} {vs : List V} (r : Rs G F ds vs) (lo hi : Option Int) : Rs G F (cutD ds lo hi) (cutV vs lo hi) := by
  unfold cutD cutV
  rw [r.length]
  exact (r.drop _).take _
def slD (d : D) (lo hi : Option Int) : Option Sl := match d with
  | .list xs => some (.own (.list (cutD xs lo hi)))
  | .tuple xs => if stD (cutD xs lo hi) = false ∨ (HT.sIx xs.length 0 lo = 0 ∧ HT.sIx xs.length xs.length hi = xs.length) then some (.val (.tuple (cutD xs lo hi))) else none
  | .str z => if z.length ≤ sizeLine then some (.val (.str (cutS z lo hi))) else none
  | .dict [(.none, .list xs)] => some (.own (.list (cutD xs lo hi)))
  | _ => none
theorem rs_ints {F : Hp} : ∀ ns : List Int, Rs G F (ns.map PyData.int) (ns.map V.int)
  | [] => .nil
  | n :: ns => .cons (.int n) (rs_ints ns)
def rSlice (K : PySem.W.Frag) : V → Option Int → Option Int → Hp → VK → Prop := fun x lo hi H Q => rSlL K x lo hi H Q ∨ rSlA K x lo hi H Q ∨ rSlS x lo hi H Q
theorem or_slice (C : Cw X K E kk) : L2.SlR X (rSlice K) := C.kq ▸ sl_list.or (sl_tupA.or sl_str)
theorem cutD_all (xs : List D) (lo hi : Option Int) (h : HT.sIx xs.length 0 lo = 0 ∧ HT.sIx xs.length xs.length hi = xs.length) : cutD xs lo hi = xs := by
  unfold cutD; rw [h.1, h.2]; simp
theorem v_slice {F H : Hp} {d : D} {x : V} {lo hi : Option Int} {Q : VK} (s : Same F H) (rx : Rd G F H d x) (h : okS G F H Q (slD d lo hi)) : rSlice G.K x lo hi H Q := by
  cases d <;> first | exact h.elim | skip
  · rename_i z
    simp only [slD] at h
    by_cases hz : z.length ≤ sizeLine
    · rw [if_pos hz] at h; exact .inr (.inr ⟨z, rx, hz, okS_val s h (.str _)⟩)
    · rw [if_neg hz] at h; exact h.elim
  · rename_i xs
    obtain ⟨p1, ys, rfl, h1, r1⟩ := rx
    exact .inl ⟨p1, ys, rfl, .of h1, fun p n => okS_list s h (r1.cut lo hi) n⟩
  · rename_i xs
    obtain ⟨p1, ys, rfl, h1, r1⟩ := rx
    simp only [slD] at h
    by_cases q : stD (cutD xs lo hi) = false ∨ (HT.sIx xs.length 0 lo = 0 ∧ HT.sIx xs.length xs.length hi = xs.length)
    · rw [if_pos q] at h
      refine .inr (.inl ⟨p1, ys, rfl, sqT_same s h1.sq, fun z => ?_, fun z p n => okS_tup s ?_ h (r1.cut lo hi) n⟩)
      · rw [r1.length] at z
        rw [cutD_all xs lo hi z] at h
        exact okS_val s h (.tup h1 r1)
      · rw [r1.length] at z
        exact q.resolve_right z
    · rw [if_neg q] at h; exact h.elim
  · rename_i es
    obtain ⟨a, rfl, q⟩ := rx
    rcases q with ⟨kvs, q, r⟩ | ⟨kvs, es', rfl, q, r⟩ | ⟨c, es', dx, fs, rfl, q, r⟩ | ⟨ns, rfl, q⟩ | ⟨o, kvs, es', rfl, q, r⟩ | ⟨o, kvs, es', rfl, q, r⟩
    · cases r with
      | nil => exact h.elim
      | @cons k _ _ _ _ _ _ => cases k <;> exact h.elim
    · cases r <;> exact h.elim
    · exact h.elim
    · exact .inl ⟨a, _, rfl, sqL_same s q, fun p n => okS_list s h ((rs_ints ns).cut lo hi) n⟩
    · exact h.elim
    · exact h.elim
/-- a slice's part -/
def MdP (G : Gx) (E : XK) (t : TO) (m : EV → Out (Option Int × EV)) : Prop := ∀ F H ρ σ Q, EnvR G F H ρ σ → PostG (fun (x : Option Int × EV) => ∀ F' H', Stp G F H ρ F' H' x.2 σ → Q x.1 H') (XC G E F H σ ρ) (m ρ) → t σ H Q
def SP' (X : Cx) (K : PySem.W.Frag) (cl : Str → Addr) (E : XK) (e : Option Expr) (t : TO) (m : EV → Out (Option Int × EV)) : Prop := PO X e t ∧ MdP ⟨K, cl⟩ E t m
def pNo : EV → Out (Option Int × EV) := fun ρ => .ok (none, ρ)
def pI (a : EV → Out (Rv × EV)) : EV → Out (Option Int × EV) := fun ρ => (fzO (a ρ)).bind fun x => match x.1 with
  | .val (.int i) => .ok (some i, x.2)
  | _ => .bad
theorem sp_no : SP' X K cl E none tNoPart pNo := ⟨po_none, fun F H ρ σ Q e p => p F H (.refl e)⟩
theorem sp_some {e : Expr} {te : TE} {me : EV → Out (Rv × EV)} (h : SE X K cl E e te me) : SP' X K cl E (some e) (tPart te) (pI me) := ⟨po_some h.1, fun F H ρ σ Q en p => by
  refine h.2.then en p fun F1 H1 ρ1 r v s hr rr p1 => ?_
  cases r with
  | own d => exact p1.elim
  | ref i => exact p1.elim
  | val d =>
    cases d <;> first | exact p1.elim | skip
    cases (show R _ F1 (.int _) v from rr)
    exact ⟨_, rfl, p1 F1 H1 s⟩⟩
def mSl (a : EV → Out (Rv × EV)) (lo hi : EV → Out (Option Int × EV)) : EV → Out (Rv × EV) := fun ρ => (fzO (a ρ)).bind fun x => (lo x.2).bind fun l => (hi l.2).bind fun h => match rdv h.2 x.1 with
  | some d => giv h.2 (slD d l.1 h.1)
  | none => .bad
theorem MdP.then {t : TO} {m : EV → Out (Option Int × EV)} (ha : MdP G E t m) {F H : Hp} {ρ : EV} {σ : St} {Q : Option Int → Hp → Prop} {β : Type} {okc : β → Prop} {k : Option Int × EV → Out β} (e : EnvR G F H ρ σ) (p : PostG okc (XC G E F H σ ρ) ((m ρ).bind k))
    (h : ∀ F1 H1 ρ1 r, Stp G F H ρ F1 H1 ρ1 σ → PostG okc (XC G E F1 H1 σ ρ1) (k (r, ρ1)) → Q r H1) : t σ H Q := by
  refine ha F H ρ σ Q e ?_
  rw [post_bind] at p
  revert p
  cases m ρ with
  | bad => exact fun p => p
  | ex c f ρ' => exact fun p => p
  | ok x => exact fun p F1 H1 t => h F1 H1 x.2 x.1 t (PostG.imp (show PostG okc (XC G E F H σ ρ) (k x) from p) (fun _ q => q) fun _ _ _ q => q.step t)
theorem se_slice {e : Expr} {lo hi : Option Expr} {te : TE} {tl th : TO} {me : EV → Out (Rv × EV)} {ml mh : EV → Out (Option Int × EV)} {pos p2 : Pos} (C : Cw X K E kk) (ha : SE X K cl E e te me) (hl : SP' X K cl E lo tl ml) (hh : SP' X K cl E hi th mh) : SE X K cl E (.Subscript e (.Slice lo hi none p2) pos) (tSl (rSlice K) te tl th) (mSl me ml mh) :=
  ⟨pe_slice (or_slice C) ha.1 hl.1 hh.1, fun F H ρ σ Q en p => by
    refine ha.2.then en p fun F1 H1 ρ1 r v s hr rr p1 => ?_
    refine hl.2.then s.env p1 fun F2 H2 ρ2 l s2 p2 => ?_
    refine hh.2.then s2.env p2 fun F3 H3 ρ3 h s3 p3 => ?_
    revert p3
    dsimp only
    cases q : rdv ρ3 r with
    | none => exact False.elim
    | some d =>
      intro p3
      exact v_slice s3.env.same (((rr.step s2 hr).step s3 hr).rd s3.env q) (post_giv s3.env (PostG.imp p3 (fun _ z => z.step ((s.trans s2).trans s3) en) fun _ _ _ z => z))⟩
def eqS : D → D → Option Sl
  | .str a, .str b => some (.val (.bool (decide (a = b))))
  | _, _ => none
def neS : D → D → Option Sl
  | .str a, .str b => some (.val (.bool (!decide (a = b))))
  | _, _ => none
theorem v_eqS : Op2 G rEq eqS := fun F H d e x y Q s rx ry h => by
  cases d <;> cases e <;> first | exact h.elim | skip
  rename_i a b
  cases (show x = .str a from rx)
  cases (show y = .str b from ry)
  have e2 : decide (V.str a = V.str b) = decide (a = b) := by rw [Bool.eq_iff_iff]; simp
  exact ⟨rfl, by rw [e2]; exact okS_val s h (.bl _)⟩
theorem v_neS : Op2 G rNe neS := fun F H d e x y Q s rx ry h => by
  cases d <;> cases e <;> first | exact h.elim | skip
  rename_i a b
  cases (show x = .str a from rx)
  cases (show y = .str b from ry)
  have e2 : decide (V.str a = V.str b) = decide (a = b) := by rw [Bool.eq_iff_iff]; simp
  exact ⟨rfl, by rw [e2]; exact okS_val s h (.bl _)⟩
def eqD (d e : D) : Option Sl := (eqS d e).or (eqD0 d e)
def neD (d e : D) : Option Sl := (neS d e).or (neD0 d e)
theorem v_eq : Op2 G (fun x y H Q => rEq x y H Q ∨ rEqD G.K x y H Q) eqD := v_eqS.or v_eq0
theorem v_ne : Op2 G (fun x y H Q => rNe x y H Q ∨ rNeD G.K x y H Q) neD := v_neS.or v_ne0
theorem r_eq (C : Cw X K E kk) : OpR X (compareOp .Eq) (fun x y H Q => rEq x y H Q ∨ rEqD K x y H Q) := C.kq ▸ op_eq.or (op_eqD C.u64)
theorem r_ne (C : Cw X K E kk) : OpR X (compareOp .NotEq) (fun x y H Q => rNe x y H Q ∨ rNeD K x y H Q) := C.kq ▸ op_ne.or (op_neD C.u64)
theorem r_ix (C : Cw X K E kk) : IxR X (rIx K) := C.kq ▸ ix_seq
end
end Fr
namespace Fr
open PySem L2
section
variable {G : Gx} {X : Cx} {K : PySem.W.Frag} {cl : Str → Addr} {E : XK} {kk : Nat} {e o : Expr} {es : List Expr} {pos p : Pos} {te to : TE} {me mo : EV → Out (Rv × EV)} {t : TA} {m : EV → Out (List Rv × EV)} {F H F' H' : Hp} {ρ ρ' : EV} {σ : St}
/-! ### isinstance(e, T) -/
inductive Ty where
  | int | bool | str | list | tuple | dict
def Ty.nm : Ty → String
  | .int => "int"
  | .bool => "bool"
  | .str => "str"
  | .list => "list"
  | .tuple => "tuple"
  | .dict => "dict"
def isObj : D → Bool
  | .dict ((.none, _) :: _) => true
  | .dict ((.list _, _) :: _) => true
  | _ => false
def isiB : Ty → D → Bool
  | .int, .int _ => true
  | .int, .bool _ => true
  | .bool, .bool _ => true
  | .str, .str _ => true
  | .list, .list _ => true
  | .tuple, .tuple _ => true
  | .dict, .dict _ => true
  | _, _ => false
def tagD : D → String
  | .none => "NoneType"
  | .bool _ => "bool"
  | .int _ => "int"
  | .str _ => "str"
  | .list _ => "list"
  | .tuple _ => "tuple"
  | .dict _ => "dict"
theorem Rd.ty {d : D} {v : V} (s : Same F H) (h : Rd G F H d v) (ho : isObj d = false) : TyX G.K H v (.type (tagD d)) := by
  cases d with
  | none => cases h; exact .base .non
  | bool b => cases h; exact .base (.bl _)
  | int b => cases h; exact .base (.int _)
  | str b => cases h; exact .base (.str _)
  | list ds => obtain ⟨a, xs, rfl, q, _⟩ := h; exact .base (.lst q)
  | tuple ds =>
    obtain ⟨a, xs, rfl, q, _⟩ := h
    rcases q with ⟨_, q⟩ | ⟨_, o, _, q⟩
    · exact .base (.tup (s _ _ q))
    · exact .fTuple (s _ _ q)
  | dict es =>
    obtain ⟨a, rfl, q⟩ := h
    rcases q with ⟨kvs, q, _⟩ | ⟨kvs, es', rfl, q, _⟩ | ⟨c, es', dx, fs, rfl, q, _⟩ | ⟨ns, rfl, q⟩ | ⟨o, kvs, es', rfl, q, _⟩ | ⟨o, kvs, es', rfl, q, _⟩
    · exact .base (.dK q)
    · exact .base (.dT q)
    · cases ho
    · cases ho
    · cases ho
    · cases ho
theorem kit_all (T : Ty) (d : D) : kitB (tagD d) T.nm = some (isiB T d) := by
  cases T <;> cases d <;> dsimp only [tagD, isiB, Ty.nm] <;> decide +kernel
def mIsi (T : Ty) (a : EV → Out (Rv × EV)) : EV → Out (Rv × EV) := m1 (fun d => if isObj d = true then none else some (.val (.bool (isiB T d)))) a
theorem se_isi (T : Ty) {x : Str} {q1 q2 : Pos} (C : Cw X K E kk) (h : SE X K cl E e te me) (hm : X.mg "isinstance" = none) (hx : X.mg x = none) (hv : bootBuiltins x = some (.type T.nm) := by decide +kernel) (hb : bootBuiltins "isinstance" = some (.builtin "isinstance") := by decide +kernel) (hg : Gl X "isinstance" := by rfl) (hgx : Gl X x := by rfl) (hn : x ≠ "__name__" := by decide)
    (hdx : (x == ("__debug__" : Str)) = false := by decide) (h1 : starEach [e, .Name x q2] X.env = (false, eval e X.env) :: starEach [.Name x q2] X.env := by rfl) (h2 : starEach [.Name x q2] X.env = (false, eval (.Name x q2) X.env) :: starEach [] X.env := by rfl) (hpl : (backTo pos (starEach [.Name x q2] X.env)).any (·.1) = false := by rfl) :
    SE X K cl E (.Call (.Name "isinstance" q1) [e, .Name x q2] [] pos) (tCB (rIsi K) (tCons te (tCons (tC (.ty T.nm)) tNil))) (mIsi T me) :=
  ⟨pe_callB (C.kq ▸ call_isi) hg hm hb (pa_cons h.1 (pa_cons (pe_bltn hgx hx hv rfl hn hdx) pa_nil h2) h1) (by decide) (by decide) h1 hpl, fun F H ρ σ Q en pp => by
    unfold mIsi m1 at pp
    refine h.2.then en pp fun F1 H1 ρ1 r v s hr rr p1 => ?_
    revert p1
    dsimp only
    cases q : rdv ρ1 r with
    | none => exact False.elim
    | some d =>
      dsimp only
      intro p1
      by_cases ho : isObj d = true
      · rw [if_pos ho] at p1; exact p1.elim
      · rw [if_neg ho] at p1
        have ho : isObj d = false := by simpa using ho
        exact ⟨v, .ty T.nm, _, _, isiB T d, rfl, .ty _, (rr.rd s.env q).ty s.env.same ho, kit_ty (kit_all T d), (p1.step s en) F1 H1 _ (.refl s.env) (.bl _)⟩⟩
/-! ### built-ins called by name -/
def one (g : D → Option Sl) : List D → Option Sl
  | [d] => g d
  | _ => none
def two (g : D → D → Option Sl) : List D → Option Sl
  | [d, e] => g d e
  | _ => none
theorem v_one {r : List V → Hp → VK → Prop} {g : D → Option Sl} (h : ∀ F H d x Q, Same F H → Rd G F H d x → okS G F H Q (g d) → r [x] H Q) : OpN G r (one g) := fun F H ds xs Q s rr q => by
  cases rr with
  | nil => exact q.elim
  | cons r1 r2 => cases r2 with
    | nil => exact h F H _ _ Q s r1 q
    | cons _ _ => exact q.elim
theorem v_two {r : List V → Hp → VK → Prop} {g : D → D → Option Sl} (h : ∀ F H d e x y Q, Same F H → Rd G F H d x → Rd G F H e y → okS G F H Q (g d e) → r [x, y] H Q) : OpN G r (two g) := fun F H ds xs Q s rr q => by
  cases rr with
  | nil => exact q.elim
  | cons r1 r2 => cases r2 with
    | nil => exact q.elim
    | cons r2 r3 => cases r3 with
      | nil => exact h F H _ _ _ _ Q s r1 r2 q
      | cons _ _ => exact q.elim
def lenD1 : D → Option Sl
  | .str z => if z.length ≤ sizeLine then some (.val (.int z.length)) else none
  | .list xs => some (.val (.int xs.length))
  | .tuple xs => some (.val (.int xs.length))
  | _ => none
def lenD : List D → Option Sl := one lenD1
theorem v_len : OpN G (fun xs H Q => ∃ x n, xs = [x] ∧ LenV G.K x H n ∧ Q (.int n) H) lenD := v_one fun F H d x Q s rx h => by
  cases d with
  | str z =>
    cases (show _ = V.str z from rx)
    simp only [lenD1] at h
    by_cases hz : z.length ≤ sizeLine
    · rw [if_pos hz] at h; exact ⟨_, z.length, rfl, ⟨hz, rfl⟩, okS_val s h (.int _)⟩
    · rw [if_neg hz] at h; exact h.elim
  | list ds =>
    obtain ⟨a, ys, rfl, q, r1⟩ := rx
    exact ⟨_, ds.length, rfl, .inl ⟨ys, .of q, r1.length.symm⟩, okS_val s h (.int _)⟩
  | tuple ds =>
    obtain ⟨a, ys, rfl, q, r1⟩ := rx
    exact ⟨_, ds.length, rfl, .inr ⟨ys, sqT_same s q.sq, r1.length.symm⟩, okS_val s h (.int _)⟩
  | _ => exact h.elim
def bools : List D → Option (List Bool)
  | [] => some []
  | .bool b :: r => (bools r).map (b :: ·)
  | _ :: _ => none
theorem bools_rs {ds : List D} {vs : List V} (r : Rs G F ds vs) : ∀ bs, bools ds = some bs → vs = bs.map V.bl := by
  induction ds generalizing vs with
  | nil => intro bs q; cases r; simp [bools] at q; subst q; rfl
  | cons d ds ih =>
    intro bs q
    cases r with
    | cons r1 r2 =>
      cases d <;> first | (simp [bools] at q; done) | skip
      cases r1
      simp only [bools] at q
      cases z : bools ds with
      | none => rw [z] at q; cases q
      | some bs' =>
        rw [z] at q
        simp only [Option.map_some] at q
        injection q with q
        subst q
        rw [ih r2 bs' z]; rfl
def allD1 : D → Option Sl
  | .list ds => (bools ds).map fun bs => .val (.bool (bs.all id))
  | _ => none
def allD : List D → Option Sl := one allD1
theorem v_all : OpN G (rAll G.K) allD := v_one fun F H d x Q s rx h => by
  cases d with
  | list ds =>
    obtain ⟨a, ys, rfl, q, r1⟩ := rx
    simp only [allD1] at h
    cases z : bools ds with
    | none => rw [z] at h; exact h.elim
    | some bs => rw [z] at h; exact ⟨a, bs, rfl, by rw [← bools_rs r1 bs z]; exact .of q, okS_val s h (.bl _)⟩
  | _ => exact h.elim
def intsD : List D → Option (List Int)
  | [] => some []
  | .int b :: r => (intsD r).map (b :: ·)
  | _ :: _ => none
theorem ints_rs {ds : List D} {vs : List V} (r : Rs G F ds vs) : ∀ bs, intsD ds = some bs → vs = bs.map V.int := by
  induction ds generalizing vs with
  | nil => intro bs q; cases r; simp [intsD] at q; subst q; rfl
  | cons d ds ih =>
    intro bs q
    cases r with
    | cons r1 r2 =>
      cases d <;> first | (simp [intsD] at q; done) | skip
      cases r1
      simp only [intsD] at q
      cases z : intsD ds with
      | none => rw [z] at q; cases q
      | some bs' =>
        rw [z] at q
        simp only [Option.map_some] at q
        injection q with q
        subst q
        rw [ih r2 bs' z]; rfl
def strsD : List D → Option (List Str)
  | [] => some []
  | .str b :: r => (strsD r).map (b :: ·)
  | _ :: _ => none
def sumD1 : D → Option Sl
  | .list ds => (intsD ds).map fun ns => .val (.int ns.sum)
  | _ => none
def sumD : List D → Option Sl := one sumD1
theorem v_sum : OpN G (rSum G.K) sumD := v_one fun F H d x Q s rx h => by
  cases d with
  | list ds =>
    obtain ⟨a, ys, rfl, q, r1⟩ := rx
    simp only [sumD1] at h
    cases z : intsD ds with
    | none => rw [z] at h; exact h.elim
    | some bs => rw [z] at h; exact ⟨a, bs, rfl, by rw [← ints_rs r1 bs z]; exact .of q, okS_val s h (.int _)⟩
  | _ => exact h.elim
def tupleD1 : D → Option Sl
  | .list ds => some (.val (.tuple ds))
  | .tuple ds => some (.val (.tuple ds))
  | _ => none
def listD1 : D → Option Sl
  | .list ds => some (.own (.list ds))
  | .tuple ds => some (.own (.list ds))
  | _ => none
def tupleD : List D → Option Sl := one tupleD1
def listD : List D → Option Sl := one listD1
/-- tuple(a list): the object as it was laid -/
def rTupF (K : PySem.W.Frag) : List V → Hp → VK → Prop := fun xs H Q => ∃ p ys, xs = [.ref p] ∧ SqL K H p ys ∧ ∀ l (o : Obj), H l = none → o.dict = none → Q (.ref l) (upd H l (.frz o (.tup ys)))
def rTupA (K : PySem.W.Frag) : List V → Hp → VK → Prop := fun xs H Q => (∃ p ys, xs = [.ref p] ∧ ((SqL K H p ys ∧ ∀ l, H l = none → Q (.ref l) (upd H l (.tup ys))) ∨ (SqT K H p ys ∧ Q (.ref p) H))) ∨ rTupF K xs H Q
theorem call_tupF {X : Cx} : CallR X (.type "tuple") (rTupF X.K) := by
  intro pins s σ H xs us Q I r h
  obtain ⟨p, ys, rfl, hq, q⟩ := h
  obtain ⟨u, rfl, rx⟩ := vals1 r
  cases rx
  obtain ⟨its, r2, pl, hz⟩ := I.list hq
  have hlen := r2.length
  refine call_tuple_list pl.isList (fun h1 kp => ?_) (by simp only [List.size_toArray] <;> omega)
  have I1 : Inv X pins σ H { s with heap := h1 } := I.kept (t' := s.toks) kp
  refine ⟨.ref h1.objs.size, _, I1.laid (t' := s.toks) (o := .frz { cls := .type "tuple", data := .seq its.toArray } (.tup ys)) (fun b o e => Heap.get?_push_of_some _ e) (Nat.le_refl _) ?_, rfl, q _ _ (I1.hok.fresh (Nat.le_refl _)) rfl⟩
  exact ⟨Heap.get?_push_size _ rfl, hz, its, r2, PyProof.Rows.IsTup.new _ _⟩
theorem v_tuple : OpN G (rTupA G.K) tupleD := v_one fun F H d x Q s rx h => by
  cases d with
  | list ds =>
    obtain ⟨a, ys, rfl, q, r1⟩ := rx
    cases z : stD ds with
    | false => exact .inl ⟨a, ys, rfl, .inl ⟨.of q, fun l n => okS_tup s z h r1 n⟩⟩
    | true => exact .inr ⟨a, ys, rfl, .of q, fun l o n ho => okS_tupF s z h r1 n ho⟩
  | tuple ds =>
    obtain ⟨a, ys, rfl, q, r1⟩ := rx
    exact .inl ⟨a, ys, rfl, .inr ⟨sqT_same s q.sq, okS_val s h (.tup q r1)⟩⟩
  | _ => exact h.elim
theorem v_list : OpN G (fun xs H Q => ∃ p ys, xs = [.ref p] ∧ (SqL G.K H p ys ∨ SqT G.K H p ys) ∧ ∀ l, H l = none → Q (.ref l) (upd H l (.lst ys))) listD := v_one fun F H d x Q s rx h => by
  cases d with
  | list ds =>
    obtain ⟨a, ys, rfl, q, r1⟩ := rx
    exact ⟨a, ys, rfl, .inl (.of q), fun l n => okS_list s h r1 n⟩
  | tuple ds =>
    obtain ⟨a, ys, rfl, q, r1⟩ := rx
    exact ⟨a, ys, rfl, .inr (sqT_same s q.sq), fun l n => okS_list s h r1 n⟩
  | _ => exact h.elim
def intD1 : D → Option Sl
  | .int i => some (.val (.int i))
  | .bool b => some (.val (.int (if b then 1 else 0)))
  | .str z => match PySem.intText? z with
    | some n => if z.length ≤ 640 then some (.val (.int n)) else none
    | none => none
  | _ => none
def intD : List D → Option Sl := one intD1
theorem or_int : CallR X (.type "int") (fun xs H Q => ((∃ i, xs = [.int i] ∧ Q (.int i) H) ∨ ∃ k, xs = [.bl k] ∧ Q (.int (if k then 1 else 0)) H) ∨ ∃ a n, xs = [.str a] ∧ PySem.intText? a = some n ∧ a.length ≤ 640 ∧ Q (.int n) H) := call_int1.or call_int_str
theorem v_int : OpN G (fun xs H Q => ((∃ i, xs = [.int i] ∧ Q (.int i) H) ∨ ∃ k, xs = [.bl k] ∧ Q (.int (if k then 1 else 0)) H) ∨ ∃ a n, xs = [.str a] ∧ PySem.intText? a = some n ∧ a.length ≤ 640 ∧ Q (.int n) H) intD := v_one fun F H d x Q s rx h => by
  cases d with
  | int i => cases (show _ = V.int i from rx); exact .inl (.inl ⟨i, rfl, okS_val s h (.int _)⟩)
  | bool b => cases (show _ = V.bl b from rx); exact .inl (.inr ⟨b, rfl, okS_val s h (.int _)⟩)
  | str z =>
    cases (show _ = V.str z from rx)
    simp only [intD1] at h
    cases q : PySem.intText? z with
    | none => rw [q] at h; exact h.elim
    | some n =>
      rw [q] at h
      dsimp only at h
      by_cases hz : z.length ≤ 640
      · rw [if_pos hz] at h; exact .inr ⟨z, n, rfl, q, hz, okS_val s h (.int _)⟩
      · rw [if_neg hz] at h; exact h.elim
  | _ => exact h.elim
def absD1 : D → Option Sl
  | .int i => some (.val (.int (if i < 0 then -i else i)))
  | _ => none
def absD : List D → Option Sl := one absD1
theorem v_abs : OpN G (fun xs H Q => ∃ i, xs = [.int i] ∧ Q (.int (if i < 0 then -i else i)) H) absD := v_one fun F H d x Q s rx h => by
  cases d with
  | int i => cases (show _ = V.int i from rx); exact ⟨i, rfl, okS_val s h (.int _)⟩
  | _ => exact h.elim
def maxD1 : D → D → Option Sl
  | .int i, .int j => some (.val (.int (if j > i then j else i)))
  | _, _ => none
def maxD : List D → Option Sl := two maxD1
theorem v_max : OpN G (fun xs H Q => ∃ i j, xs = [.int i, .int j] ∧ Q (.int (if j > i then j else i)) H) maxD := v_two fun F H d e x y Q s rx ry h => by
  cases d <;> cases e <;> first | exact h.elim | skip
  rename_i i j
  cases (show _ = V.int i from rx)
  cases (show _ = V.int j from ry)
  exact ⟨i, j, rfl, okS_val s h (.int _)⟩
/-! ### repr -/
def reprD1 : D → Option Sl := fun d => if (d.canLay0 && d.showable && decide (d.depth ≤ 64) && decide (d.shown.length ≤ sizeLine)) = true then some (.val (.str d.shown)) else none
def rRepr (K : PySem.W.Frag) : List V → Hp → VK → Prop := fun xs H Q => ∃ x d, xs = [x] ∧ Dp K H x d ∧ d.canLay0 = true ∧ d.showable = true ∧ d.depth ≤ 64 ∧ d.shown.length ≤ sizeLine ∧ Q (.str d.shown) H
def reprD : List D → Option Sl := one reprD1
theorem call_repr (C : Cw X K E kk) : CallR X (.builtin "repr") (rRepr K) := by
  obtain ⟨kq, room, gd, calm, pass⟩ := C
  subst kq
  intro pins s σ H xs us Q I r h
  obtain ⟨x, d, rfl, hd, hc, hs, hdp, hl, q⟩ := h
  obtain ⟨u, rfl, rx⟩ := vals1 r
  obtain ⟨as, rd⟩ := Dp.reads I d x u hd rx
  have hu := room.un
  have fin : ∀ h' k tk, (∀ b o, s.heap.get? b = some o → h'.get? b = some o) → EP X pins σ Q (.str d.shown k) { s with heap := h', toks := tk } := fun h' k tk kp => ⟨.str _, H, I.kept kp, ⟨k, rfl⟩, q⟩
  cases hd with
  | non => cases rx; exact PySem.P.repr_of_none (fin _ _ _ fun _ _ e => e)
  | bl b => cases rx; exact PySem.P.repr_of_bool (fin _ _ _ fun _ _ e => e)
  | int i => obtain ⟨t, rfl⟩ := rx; exact PySem.P.repr_of_int (by simpa [PyData.showable] using hs) (fin _ _ _ fun _ _ e => e)
  | str z => obtain ⟨t, rfl⟩ := rx; exact PySem.P.repr_of_str (fin _ _ _ fun _ _ e => e) (by simpa only [PyData.shown] using hl)
  | lst a b =>
    cases rx
    exact PySem.repr_of_reads' rd hs (PyData.noDict_hsm (PyData.hasDict_of_canLay _ hc)) gd (by omega) (fun _ _ e => e) (fun h' k tk kp => fin h' k tk kp) hl
  | tup a b =>
    cases rx
    exact PySem.repr_of_reads' rd hs (PyData.noDict_hsm (PyData.hasDict_of_canLay _ hc)) gd (by omega) (fun _ _ e => e) (fun h' k tk kp => fin h' k tk kp) hl
theorem v_repr : OpN G (rRepr G.K) reprD := v_one fun F H d x Q s rx h => by
    simp only [reprD1] at h
    by_cases q : (d.canLay0 && d.showable && decide (d.depth ≤ 64) && decide (d.shown.length ≤ sizeLine)) = true
    · rw [if_pos q] at h
      simp only [Bool.and_eq_true, decide_eq_true_eq] at q
      exact ⟨_, d, rfl, rx.dp s q.1.1.1, q.1.1.1, q.1.1.2, q.1.2, q.2, okS_val s h (.str _)⟩
    · rw [if_neg q] at h; exact h.elim
theorem r_len (C : Cw X K E kk) : CallR X (.builtin "len") (fun xs H Q => ∃ x n, xs = [x] ∧ LenV K x H n ∧ Q (.int n) H) := C.kq ▸ call_len
theorem r_all (C : Cw X K E kk) : CallR X (.builtin "all") (rAll K) := C.kq ▸ cr_all C.calm
theorem r_sum (C : Cw X K E kk) : CallR X (.builtin "sum") (rSum K) := C.kq ▸ cr_sum C.calm
theorem r_tuple (C : Cw X K E kk) : CallR X (.type "tuple") (rTupA K) := C.kq ▸ call_tuple_of.or call_tupF
theorem r_list (C : Cw X K E kk) : CallR X (.type "list") (fun xs H Q => ∃ p ys, xs = [.ref p] ∧ (SqL K H p ys ∨ SqT K H p ys) ∧ ∀ l, H l = none → Q (.ref l) (upd H l (.lst ys))) := C.kq ▸ call_list_of
end
end Fr
namespace Fr
open PySem L2
section
variable {G : Gx} {X : Cx} {K : PySem.W.Frag} {cl : Str → Addr} {E : XK} {kk : Nat} {e o b : Expr} {es : List Expr} {pos p apos : Pos} {te to tb : TE} {me mo mb : EV → Out (Rv × EV)} {t : TA} {m : EV → Out (List Rv × EV)} {F H F' H' : Hp} {ρ ρ' : EV} {σ : St} {np : Nat}
/-! ### methods of built-in types that change nothing -/
def tyB (T : String) : D → Bool
  | .str _ => T == "str"
  | .int _ => T == "int"
  | .list _ => T == "list"
  | .dict ((.none, _) :: _) => false
  | .dict ((.list _, _) :: _) => false
  | .dict _ => T == "dict"
  | _ => false
theorem Rd.tyV {T : String} {d : D} {v : V} (h : Rd G F H d v) (q : tyB T d = true) : L2.tyV G.K T v H := by
  cases d with
  | none => cases q
  | bool b => cases q
  | int i => cases (show v = .int i from h); exact eq_of_beq q
  | str z => cases (show v = .str z from h); exact eq_of_beq q
  | list ds => obtain ⟨a, xs, rfl, k, _⟩ := h; exact .inl ⟨eq_of_beq q, xs, .of k⟩
  | tuple ds => cases q
  | dict es =>
    obtain ⟨a, rfl, k⟩ := h
    rcases k with ⟨kvs, k, r⟩ | ⟨kvs, es', rfl, k, r⟩ | ⟨c, es', dx, fs, rfl, k, r⟩ | ⟨ns, rfl, k⟩ | ⟨_, _, _, rfl, _⟩ | ⟨_, _, _, rfl, _⟩
    · refine .inr (.inr (.inl ⟨?_, .inl ⟨kvs, k⟩⟩))
      cases r with
      | nil => exact eq_of_beq q
      | @cons k' d' v' es' vs' r1 r2 => cases k' <;> exact eq_of_beq q
    · refine .inr (.inr (.inl ⟨?_, .inr ⟨kvs, k⟩⟩))
      cases r with
      | nil => exact eq_of_beq q
      | cons _ _ => exact eq_of_beq q
    · cases q
    · cases q
    · cases q
    · cases q
def mM (T : String) (f : D → List D → Option Sl) (o : EV → Out (Rv × EV)) (as : EV → Out (List Rv × EV)) : EV → Out (Rv × EV) := fun ρ => (fzO (o ρ)).bind fun x => match rdv x.2 x.1 with
  | some d0 => if tyB T d0 = true then (as x.2).bind fun y => match rdv y.2 x.1, rdvs y.2 y.1 with
      | some d, some ds => giv y.2 (f d ds)
      | _, _ => .bad
    else .bad
  | none => .bad
def OpM (G : Gx) (r : V → List V → Hp → VK → Prop) (f : D → List D → Option Sl) : Prop := ∀ F H d ds x xs Q, Same F H → Rd G F H d x → Rds G F H ds xs → okS G F H Q (f d ds) → r x xs H Q
theorem md_M {T : String} {r : V → List V → Hp → VK → Prop} {f : D → List D → Option Sl} (ho : OpM G r f) (ha : Md G E to mo) (hb : MdA G E t m) : Md G E (tBM G.K T r to t) (mM T f mo m) := fun F H ρ σ Q en pp => by
  unfold mM at pp
  refine ha.then en pp fun F1 H1 ρ1 x v s hx rx p1 => ?_
  revert p1
  dsimp only
  cases q0 : rdv ρ1 x with
  | none => exact False.elim
  | some d0 =>
    dsimp only
    by_cases hT : tyB T d0 = true
    · rw [if_pos hT]
      intro p1
      refine ⟨(rx.rd s.env q0).tyV hT, ?_⟩
      refine hb.then s.env p1 fun F2 H2 ρ2 rs vs s2 rr p2 => ?_
      revert p2
      dsimp only
      cases q1 : rdv ρ2 x with
      | none => exact False.elim
      | some d =>
        cases q2 : rdvs ρ2 rs with
        | none => exact False.elim
        | some ds => exact fun p2 => ho F2 H2 d ds v vs Q s2.env.same ((rx.step s2 hx).rd s2.env q1) (rr.rd s2.env ds q2) (post_giv s2.env (PostG.imp p2 (fun _ q => q.step (s.trans s2) en) fun _ _ _ q => q))
    · rw [if_neg hT]; exact False.elim
theorem se_m {T id : String} {name : Str} {r : V → List V → Hp → VK → Prop} {f : D → List D → Option Sl} (C : Cw X K E kk) (pa : PlainAttrs T) (slot : Slot T name id) (hty : typeOf (.builtin id) = pure (.type "method_descriptor")) (hm : MtR X id r) (hf : OpM ⟨K, cl⟩ r f) (ho : SE X K cl E o to mo) (ha : SA X K cl E (e :: es) t m)
    (hbase : attributeBase o name X.env (eval o X.env) = eval o X.env := by rfl)
    (hfew : ((backTo pos (starEach (e :: es) X.env)).all (fun x => !x.1) && (backToKw pos (keywordEach [] X.env)).all (fun x => x.1.isSome) && decide ((e :: es).length + ([] : List Keyword).length + (if ([] : List Keyword).isEmpty then 0 else 1) < 30)) = true := by rfl)
    (hline : (apos.endLine == pos.line) = true := by rfl) (hs : starEach (e :: es) X.env = (false, eval e X.env) :: starEach es X.env := by rfl) (hplain : (backTo pos (starEach es X.env)).any (·.1) = false := by rfl) :
    SE X K cl E (.Call (.Attribute o name apos) (e :: es) [] pos) (tBM K T r to t) (mM T f mo m) := ⟨C.kq ▸ pe_bm pa slot hty hm ho.1 ha.1 hbase hfew hline hs hplain, md_M hf ho.2 ha.2⟩
theorem se_m0 {T id : String} {name : Str} {r : V → List V → Hp → VK → Prop} {f : D → List D → Option Sl} (C : Cw X K E kk) (pa : PlainAttrs T) (slot : Slot T name id) (hty : typeOf (.builtin id) = pure (.type "method_descriptor")) (hm : MtR X id r) (hf : OpM ⟨K, cl⟩ r f) (ho : SE X K cl E o to mo)
    (hbase : attributeBase o name X.env (eval o X.env) = eval o X.env := by rfl) (hline : (apos.endLine == pos.line) = true := by rfl) : SE X K cl E (.Call (.Attribute o name apos) [] [] pos) (tBM0 K T r to) (mM T f mo aNil) :=
  ⟨C.kq ▸ pe_bm0 pa slot hty hm ho.1 hbase hline, fun F H ρ σ Q en pp => (md_M (T := T) hf ho.2 (t := tNil) (m := aNil) fun F H ρ σ Q e p => p F H [] (.refl e) .nil) F H ρ σ Q en pp⟩
def strB (g : Str → Bool) : D → List D → Option Sl
  | .str a, [] => some (.val (.bool (g a)))
  | _, _ => none
theorem v_strB {g : Str → Bool} : OpM G (fun x xs H Q => ∃ a, x = .str a ∧ xs = [] ∧ True ∧ Q (.bl (g a)) H) (strB g) := fun F H d ds x xs Q s rx rs h => by
  cases d <;> first | exact h.elim | skip
  rename_i a
  cases rs with
  | nil => exact ⟨a, rx, rfl, trivial, okS_val s h (.bl _)⟩
  | cons _ _ => exact h.elim
theorem Rds.one {ds : List D} {xs : List V} (r : Rds G F H ds xs) {d : D} (e : ds = [d]) : ∃ x, xs = [x] ∧ Rd G F H d x := by
  subst e
  cases r with
  | cons r1 r2 => cases r2; exact ⟨_, rfl, r1⟩
def splitD : D → List D → Option Sl
  | .str a, [.str b] => if (b.length == 0) = false ∧ a.length + 2 ≤ sizeLine then some (.own (.list ((Txt.split a b).map .str))) else none
  | _, _ => none
theorem rs_strs (ys : List Str) : Rs G F (ys.map .str) (ys.map V.str) := by
  induction ys with
  | nil => exact .nil
  | cons y ys ih => exact .cons (.str y) ih
theorem v_split : OpM G (fun x xs H Q => ∃ a b, x = .str a ∧ xs = [.str b] ∧ (b.length == 0) = false ∧ a.length + 2 ≤ sizeLine ∧ rNewStrs (Txt.split a b) H Q) splitD := fun F H d ds x xs Q s rx rs h => by
  cases d <;> first | exact h.elim | skip
  rename_i a
  unfold splitD at h
  split at h
  · rename_i a' b e1
    injection e1 with e1
    subst e1
    obtain ⟨x1, rfl, q⟩ := Rds.one rs rfl
    by_cases c : (b.length == 0) = false ∧ a.length + 2 ≤ sizeLine
    · rw [if_pos c] at h; exact ⟨a, b, rx, by rw [show x1 = V.str b from q], c.1, c.2, fun p n => okS_list s h (rs_strs _) n⟩
    · rw [if_neg c] at h; exact h.elim
  · exact h.elim
/-! ### what changes an owned thing -/
/-- slot i holds d, then d' -/
theorem Stp.mut {i : Nat} {d d' : D} {a : Addr} {o' : HO} (en : EnvR G F H ρ σ) (h1 : ρ[i]? = some (some (Sl.own d))) (h2 : σ[i]? = some (some (V.ref a))) (h3 : OwnR G F (upd H a o') d' a) : Stp G F H ρ F (upd H a o') (ρ.set i (some (.own d'))) σ := by
  have fa : F a = Option.none := en.free (i := i) ⟨⟨d, h1⟩, h2⟩
  have hi : i < ρ.length := (List.getElem?_eq_some_iff.mp h1).1
  have get : ∀ j : Nat, (ρ.set i (some (Sl.own d')))[j]? = if i = j then some (some (Sl.own d')) else ρ[j]? := fun j => by
    rw [get_set]
    by_cases z : i = j
    · rw [if_pos z, if_pos z, if_pos hi]
    · rw [if_neg z, if_neg z]
  have mode : ∀ j : Nat, (∃ x x' : D, ρ[j]? = some (some (Sl.own x)) ∧ (ρ.set i (some (Sl.own d')))[j]? = some (some (Sl.own x'))) ∨ ((∀ x : D, ρ[j]? ≠ some (some (Sl.own x))) ∧ (ρ.set i (some (Sl.own d')))[j]? = ρ[j]?) := by
    intro j
    rw [get]
    by_cases z : i = j
    · subst z; rw [if_pos rfl]; exact .inl ⟨d, d', h1, rfl⟩
    · rw [if_neg z]
      cases y : ρ[j]? with
      | none => exact .inr ⟨by simp, rfl⟩
      | some x => cases x with
        | none => exact .inr ⟨by simp, rfl⟩
        | some x => cases x with
          | val d => exact .inr ⟨by simp, rfl⟩
          | own d => exact .inl ⟨d, d, rfl, rfl⟩
  have ow : ∀ (j : Nat) (b : Addr), Ow (ρ.set i (some (Sl.own d'))) σ j b → Ow ρ σ j b := by
    rintro j b ⟨⟨x, q1⟩, q2⟩
    rcases mode j with ⟨y, y', k1, k2⟩ | ⟨k1, k2⟩
    · exact ⟨⟨y, k1⟩, q2⟩
    · exact ⟨⟨x, k2 ▸ q1⟩, q2⟩
  refine ⟨.refl _, ⟨fun b x q => by rw [upd_ne (ne_of_none q fa)]; exact en.same b x q, by simp [en.len], ?_, ?_, fun j k b w1 w2 => en.ne j k b (ow j b w1) (ow k b w2)⟩, fun _ _ h => .inl h, fun b x q w => ?_, mode⟩
  · intro j x q
    rw [get] at q
    by_cases z : i = j
    · rw [if_pos z] at q; injection q with q; cases q
    · rw [if_neg z] at q; exact en.val j x q
  · intro j x q
    rw [get] at q
    by_cases z : i = j
    · subst z
      rw [if_pos rfl] at q
      injection q with q; injection q with q; injection q with q
      subst q
      exact ⟨a, h2, fa, h3⟩
    · rw [if_neg z] at q
      obtain ⟨b', k1, k2, k3⟩ := en.own j x q
      have n : b' ≠ a := fun y => z (en.ne i j a ⟨⟨d, h1⟩, h2⟩ ⟨⟨x, q⟩, y ▸ k1⟩)
      exact ⟨b', k1, k2, k3.at (upd_ne n)⟩
  · rw [upd_ne (show b ≠ a from fun y => w i ⟨⟨d, h1⟩, by rw [y]; exact h2⟩)]; exact q
/-- a method that changes what slot i owns; its arguments are frozen data -/
def mMut (T : String) (i : Nat) (f : D → List D → Option (D × D)) (as : EV → Out (List Rv × EV)) : EV → Out (Rv × EV) := fun ρ => match ρ[i]? with
  | some (some (.own d0)) => if tyB T d0 = true then (as ρ).bind fun y => match y.2[i]?, mTup.vals y.1 with
      | some (some (.own d)), some ds => match f d ds with
        | some (d', r) => .ok (.val r, y.2.set i (some (.own d')))
        | none => .bad
      | _, _ => .bad
    else .bad
  | _ => .bad
def OpU (G : Gx) (r : V → List V → Hp → VK → Prop) (f : D → List D → Option (D × D)) : Prop := ∀ F H d ds a xs Q d' x, Same F H → OwnR G F H d a → Rs G F ds xs → f d ds = some (d', x) → (∀ o' v, OwnR G F (upd H a o') d' a → R G F x v → Q v (upd H a o')) → r (.ref a) xs H Q
theorem md_mut {T : String} {i : Nat} {r : V → List V → Hp → VK → Prop} {f : D → List D → Option (D × D)} (ho : OpU G r f) (hb : MdA G E t m) : Md G E (tBM G.K T r (tVar i) t) (mMut T i f m) := fun F H ρ σ Q en pp => by
  unfold mMut at pp
  split at pp
  · rename_i d0 q0
    obtain ⟨a, h1, h2, h3⟩ := en.own i d0 q0
    refine ⟨.ref a, h1, ?_⟩
    by_cases hT : tyB T d0 = true
    · rw [if_pos hT] at pp
      refine ⟨(OwnR.rd h3).tyV hT, ?_⟩
      refine hb.then en pp fun F2 H2 ρ2 rs vs s2 rr p2 => ?_
      dsimp only at p2
      split at p2
      · rename_i d ds e1 e2
        obtain ⟨a', k1, k2, k3⟩ := s2.env.own i d e1
        rw [h1] at k1
        injection k1 with k1; injection k1 with k1; injection k1 with k1
        subst k1
        cases z : f d ds with
        | none => rw [z] at p2; exact p2.elim
        | some y =>
          obtain ⟨d', x⟩ := y
          rw [z] at p2
          exact ho F2 H2 d ds a vs Q d' x s2.env.same k3 (rr.vals ds e2) z fun o' v w1 w2 => p2 F2 _ v (s2.trans (Stp.mut s2.env e1 h1 w1)) w2
      · exact p2.elim
    · rw [if_neg hT] at pp; exact pp.elim
  · exact pp.elim
theorem se_mut (i : Nat) {T id : String} {name x : Str} {px : Pos} {r : V → List V → Hp → VK → Prop} {f : D → List D → Option (D × D)} (C : Cw X K E kk) (pa : PlainAttrs T) (slot : Slot T name id) (hty : typeOf (.builtin id) = pure (.type "method_descriptor")) (hm : MtR X id r) (hf : OpU ⟨K, cl⟩ r f) (ha : SA X K cl E (e :: es) t m)
    (hN : X.N[i]? = some x := by rfl) (hv : Vis X.env.scope x := by first | exact Or.inl rfl | exact Or.inr (Or.inl rfl) | exact Or.inr (Or.inr rfl)) (hd : (x == ("__debug__" : Str)) = false := by decide) (hcd : (x == ("__classdict__" : Str)) = false := by decide)
    (hbase : attributeBase (.Name x px) name X.env (eval (.Name x px) X.env) = eval (.Name x px) X.env := by rfl)
    (hfew : ((backTo pos (starEach (e :: es) X.env)).all (fun x => !x.1) && (backToKw pos (keywordEach [] X.env)).all (fun x => x.1.isSome) && decide ((e :: es).length + ([] : List Keyword).length + (if ([] : List Keyword).isEmpty then 0 else 1) < 30)) = true := by rfl)
    (hline : (apos.endLine == pos.line) = true := by rfl) (hs : starEach (e :: es) X.env = (false, eval e X.env) :: starEach es X.env := by rfl) (hplain : (backTo pos (starEach es X.env)).any (·.1) = false := by rfl) :
    SE X K cl E (.Call (.Attribute (.Name x px) name apos) (e :: es) [] pos) (tBM K T r (tVar i) t) (mMut T i f m) := ⟨C.kq ▸ pe_bm pa slot hty hm (pe_var hN hv hd hcd) ha.1 hbase hfew hline hs hplain, md_mut hf ha.2⟩
theorem se_mut0 (i : Nat) {T id : String} {name x : Str} {px : Pos} {r : V → List V → Hp → VK → Prop} {f : D → List D → Option (D × D)} (C : Cw X K E kk) (pa : PlainAttrs T) (slot : Slot T name id) (hty : typeOf (.builtin id) = pure (.type "method_descriptor")) (hm : MtR X id r) (hf : OpU ⟨K, cl⟩ r f)
    (hN : X.N[i]? = some x := by rfl) (hv : Vis X.env.scope x := by first | exact Or.inl rfl | exact Or.inr (Or.inl rfl) | exact Or.inr (Or.inr rfl)) (hd : (x == ("__debug__" : Str)) = false := by decide) (hcd : (x == ("__classdict__" : Str)) = false := by decide)
    (hbase : attributeBase (.Name x px) name X.env (eval (.Name x px) X.env) = eval (.Name x px) X.env := by rfl) (hline : (apos.endLine == pos.line) = true := by rfl) :
    SE X K cl E (.Call (.Attribute (.Name x px) name apos) [] [] pos) (tBM0 K T r (tVar i)) (mMut T i f aNil) :=
  ⟨C.kq ▸ pe_bm0 pa slot hty hm (pe_var hN hv hd hcd) hbase hline, fun F H ρ σ Q en pp => (md_mut (T := T) (i := i) hf (t := tNil) (m := aNil) fun F H ρ σ Q e p => p F H [] (.refl e) .nil) F H ρ σ Q en pp⟩
/-! append, pop, pop(i), reverse -/
def uAppend : D → List D → Option (D × D)
  | .list xs, [y] => if xs.length < sizeLine then some (.list (xs ++ [y]), .none) else none
  | _, _ => none
theorem OwnR.lst {ds : List D} {a : Addr} (h : OwnR G F H (.list ds) a) : ∃ xs, H a = some (.lst xs) ∧ Rs G F ds xs := h
theorem v_append : OpU G rAppend uAppend := fun F H d ds a xs Q d' x s ow rs q h => by
  cases d <;> first | (simp [uAppend] at q; done) | skip
  rename_i zs
  obtain ⟨ys, h1, h2⟩ := ow.lst
  match ds, rs, q with
  | [y], .cons r1 .nil, q =>
    simp only [uAppend] at q
    by_cases c : zs.length < sizeLine
    · rw [if_pos c] at q
      injection q with q; injection q with q1 q2
      subst q1; subst q2
      exact ⟨a, ys, _, rfl, rfl, h1, by rw [h2.length]; exact c, h _ _ ⟨_, upd_same, h2.append (.cons r1 .nil)⟩ .non⟩
    · rw [if_neg c] at q; cases q
def uPopAt : D → List D → Option (D × D)
  | .list xs, [.int i] => if -(2 ^ 63) ≤ i ∧ i < 2 ^ 63 then match seqIndex? i xs.length with
      | some k => match xs[k]? with
        | some y => some (.list (xs.eraseIdx k), y)
        | none => none
      | none => none
    else none
  | _, _ => none
theorem v_popAt : OpU G rPopAt uPopAt := fun F H d ds a xs Q d' x s ow rs q h => by
  cases d <;> first | (simp [uPopAt] at q; done) | skip
  rename_i zs
  obtain ⟨ys, h1, h2⟩ := ow.lst
  unfold uPopAt at q
  split at q
  · rename_i zs' i e1
    injection e1 with e1
    subst e1
    cases rs with
    | cons r1 r2 =>
      cases r2
      cases r1
      by_cases c : -(2 ^ 63) ≤ i ∧ i < 2 ^ 63
      · rw [if_pos c] at q
        cases k1 : seqIndex? i zs.length with
        | none => rw [k1] at q; cases q
        | some k =>
          rw [k1] at q
          dsimp only at q
          cases k2 : zs[k]? with
          | none => rw [k2] at q; cases q
          | some y =>
            rw [k2] at q
            injection q with q; injection q with q1 q2
            subst q1; subst q2
            obtain ⟨v, w1, w2⟩ := h2.getD k2
            exact ⟨a, ys, i, k, v, rfl, rfl, h1, c.1, c.2, by rw [h2.length]; exact k1, w1, h _ _ ⟨_, upd_same, h2.eraseIdx k⟩ w2⟩
      · rw [if_neg c] at q; cases q
  · cases q
def uReverse : D → List D → Option (D × D)
  | .list xs, [] => some (.list xs.reverse, .none)
  | _, _ => none
theorem v_reverse : OpU G rReverse uReverse := fun F H d ds a xs Q d' x s ow rs q h => by
  cases d <;> first | (simp [uReverse] at q; done) | skip
  rename_i zs
  obtain ⟨ys, h1, h2⟩ := ow.lst
  cases rs with
  | cons _ _ => cases q
  | nil =>
    simp only [uReverse] at q
    injection q with q; injection q with q1 q2
    subst q1; subst q2
    exact ⟨a, ys, rfl, rfl, h1, h _ _ ⟨_, upd_same, h2.reverse⟩ .non⟩
/-! ### x[k] = e, x[k] op= e, of an owned list -/
def setL (d : D) (k v : D) : Option D := match d, k with
  | .list xs, .int i => (ixN xs.length i).map fun j => .list (xs.set j v)
  | _, _ => none
def ownAt (ρ : EV) (i : Nat) : Option D := match ρ[i]? with
  | some (some (.own d)) => some d
  | _ => none
theorem ownAt_some {ρ : EV} {i : Nat} {d : D} (h : ownAt ρ i = some d) : ρ[i]? = some (some (Sl.own d)) := by
  unfold ownAt at h
  split at h
  · rename_i x q; injection h with h; subst h; exact q
  · cases h
def sSub (i : Nat) (k v : EV → Out (Rv × EV)) : EV → Out (Fl × EV) := fun ρ => (fzO (v ρ)).bind fun y => match y.1 with
  | .val dv => match ownAt y.2 i with
    | some _ => (fzO (k y.2)).bind fun z => match z.1 with
      | .val dk => match ownAt z.2 i with
        | some d => match setL d dk dv with
          | some d' => .ok (.next, z.2.set i (some (.own d')))
          | none => .bad
        | none => .bad
      | _ => .bad
    | none => .bad
  | _ => .bad
theorem set_own {i : Nat} {d dk dv d' : D} {a : Addr} {k v : V} {Q : Hp → Prop} (ow : OwnR G F H d a) (rk : R G F dk k) (rv : R G F dv v) (q : setL d dk dv = some d') (h : ∀ o', OwnR G F (upd H a o') d' a → Q (upd H a o')) : rSetL (.ref a) k v H Q := by
  unfold setL at q
  split at q
  · rename_i xs j
    obtain ⟨ys, h1, h2⟩ := ow.lst
    cases rk
    cases z : ixN xs.length j with
    | none => rw [z] at q; cases q
    | some n =>
      rw [z] at q
      simp only [Option.map_some] at q
      injection q with q
      subst q
      exact ⟨a, ys, j, n, rfl, rfl, h1, by rw [h2.length]; exact z, h _ ⟨_, upd_same, h2.set rv n⟩⟩
  · cases q
theorem get_list : PGet X (rIxL X.K) := by
  intro pins s σ H x y v u Q I rx ry h
  obtain ⟨p, xs, i, z, rfl, rfl, hq, he, q⟩ := h
  cases rx
  obtain ⟨t, rfl⟩ := ry
  obtain ⟨its, r, pl, hz⟩ := I.list hq
  obtain ⟨j, h1, h2, h3, h4, h5⟩ := atI_get he
  obtain ⟨w, ew, rw'⟩ := r.get h2
  have hl := r.length
  have hn := line63
  by_cases h0 : 0 ≤ i
  · have hj : i.toNat = j := by
      rw [seqIndex_of h0 h5] at h1
      exact Option.some.inj h1
    exact wpAny_getItem_list pl.isList h0 (by omega) (by rw [hj]; simpa using ew) ⟨z, H, I, rw', q⟩
  · have hj : (i + (its.toArray.size : Int)).toNat = j := by
      rw [seqIndex_neg (by omega) h4] at h1
      rw [List.size_toArray, ← hl]
      exact Option.some.inj h1
    exact wpAny_getItem_list_neg pl.isList (by omega) (by rw [List.size_toArray] <;> omega) (by omega) (by rw [hj]; simpa using ew) ⟨z, H, I, rw', q⟩
/-- x[k] += e, ints -/
def sSubAdd (i : Nat) (k v : EV → Out (Rv × EV)) : EV → Out (Fl × EV) := fun ρ => match ownAt ρ i with
  | some _ => (fzO (k ρ)).bind fun z => match z.1 with
    | .val (.int j) => match ownAt z.2 i with
      | some (.list xs) => match atI xs j with
        | some (.int n) => (fzO (v z.2)).bind fun y => match y.1 with
          | .val (.int c) => match ownAt y.2 i with
            | some d => match setL d (.int j) (.int (n + c)) with
              | some d' => .ok (.next, y.2.set i (some (.own d')))
              | none => .bad
            | none => .bad
          | _ => .bad
        | _ => .bad
      | _ => .bad
    | _ => .bad
  | none => .bad
theorem ss_subAdd (i : Nat) {x : Str} {px ps : Pos} {k v : Expr} {tk tv : TE} {mk mv : EV → Out (Rv × EV)} (C : Cw X K E kk) (hk : SE X K cl E k tk mk) (hv : SE X K cl E v tv mv) (hN : X.N[i]? = some x := by rfl) (hvs : Vis X.env.scope x := by first | exact Or.inl rfl | exact Or.inr (Or.inl rfl) | exact Or.inr (Or.inr rfl)) (hd : (x == ("__debug__" : Str)) = false := by decide) (hcd : (x == ("__classdict__" : Str)) = false := by decide)
    (ha : ∀ ov iv new, augStore k ov iv new = (do holding [new, ov, iv] (setItem ov iv new); release [new, ov, iv] []; pure .next) := by intros; rfl) :
    SS X K cl E np (.AugAssign (.Subscript (.Name x px) k ps) .Add v pos) (tAugS (tVar i) tk tv (rIxL K) (ipI fun i j => i + j) rSetL) (sSubAdd i mk mv) :=
  ⟨ps_augS (pe_var hN hvs hd hcd) hk.1 (C.kq ▸ get_list) hv.1 ip_add set_list ha, fun A F H ρ σ Dn hn st p => by
    unfold sSubAdd at p
    cases q0 : ownAt ρ i with
    | none => rw [q0] at p; exact p.elim
    | some d0 =>
    rw [q0] at p
    dsimp only at p
    obtain ⟨a, k1, k2, k3⟩ := st.env.own i d0 (ownAt_some q0)
    refine ⟨.ref a, k1, ?_⟩
    refine hk.2.fz.thenS st p fun F1 H1 ρ1 r w s1 t1 rr p1 => ?_
    cases r with
    | own d => exact p1.elim
    | ref d => exact p1.elim
    | val dk =>
    cases dk <;> first | exact p1.elim | skip
    rename_i j
    cases (show R _ F1 (.int j) w from rr)
    dsimp only at p1
    cases e4 : ownAt ρ1 i with
    | none => rw [e4] at p1; exact p1.elim
    | some d1 =>
    rw [e4] at p1
    cases d1 <;> first | exact p1.elim | skip
    rename_i xs
    dsimp only at p1
    obtain ⟨a', z1, z2, z3⟩ := s1.env.own i _ (ownAt_some e4)
    rw [k1] at z1
    injection z1 with z1; injection z1 with z1; injection z1 with z1
    subst z1
    obtain ⟨ys, w1, w2⟩ := z3.lst
    cases e5 : atI xs j with
    | none => rw [e5] at p1; exact p1.elim
    | some dn =>
    rw [e5] at p1
    cases dn <;> first | exact p1.elim | skip
    rename_i n
    dsimp only at p1
    obtain ⟨u, y1, y2⟩ := atI_rs w2 e5
    cases y2
    refine ⟨a, ys, j, _, rfl, rfl, .of w1, y1, ?_⟩
    refine hv.2.fz.thenS s1 p1 fun F2 H2 ρ2 r2 v2 s2 t2 rr2 p2 => ?_
    cases r2 with
    | own d => exact p2.elim
    | ref d => exact p2.elim
    | val dc =>
    cases dc <;> first | exact p2.elim | skip
    rename_i c
    cases (show R _ F2 (.int c) v2 from rr2)
    dsimp only at p2
    cases e7 : ownAt ρ2 i with
    | none => rw [e7] at p2; exact p2.elim
    | some d =>
    rw [e7] at p2
    dsimp only at p2
    obtain ⟨a'', x1, x2, x3⟩ := s2.env.own i d (ownAt_some e7)
    rw [k1] at x1
    injection x1 with x1; injection x1 with x1; injection x1 with x1
    subst x1
    cases q : setL d (.int j) (.int (n + c)) with
    | none => rw [q] at p2; exact p2.elim
    | some d' =>
      rw [q] at p2
      exact ⟨n, c, rfl, rfl, set_own (i := i) x3 (.int _) (.int _) q fun o' w1 => p2 F2 _ σ (s2.stp (Stp.mut s2.env (ownAt_some e7) k1 w1))⟩⟩
/-! ### over a text, sign by sign -/
def iS (m : EV → Out (Rv × EV)) : EV → Out (List D × EV) := fun ρ => (fzO (m ρ)).bind fun x => match x.1 with
  | .val (.str z) => .ok (z.cps.toList.map fun c => .str ⟨#[c]⟩, x.2)
  | _ => .bad
theorem itR_str {z : Str} : ItR G F (Its z) (z.cps.toList.map fun c => .str ⟨#[c]⟩) := fun F2 H2 s1 s2 => by
  refine ⟨fun i d hd => ?_, fun i hi => by have q := hi; simp at q; exact q⟩
  obtain ⟨c, h1, h2⟩ := (map_at _ _ _ _).mp hd
  have h3 : z.cps[i]? = some c := by simpa using h1
  have hl : i < z.cps.size := (Array.getElem?_eq_some_iff.mp h3).1
  refine ⟨hl, ?_⟩
  rintro x H3 ⟨rfl, c', h4, rfl⟩
  rw [h3] at h4
  injection h4 with h4
  subst h4
  subst h2
  exact ⟨F2, .refl s2, .str _⟩
theorem si_str {tg : Expr} (h : SE X K cl E e te me) : SI X K cl E tg e (iStr te) (iS me) := ⟨pi_str h.1, fun F H ρ σ Q en p => by
  refine h.2.then en p fun F1 H1 ρ1 r v s hr rr p1 => ?_
  cases r with
  | own d => exact p1.elim
  | ref i => exact p1.elim
  | val d =>
    cases d <;> first | exact p1.elim | skip
    rename_i z
    cases (show R _ F1 (.str z) v from rr)
    exact ⟨z, rfl, p1 F1 H1 _ s itR_str⟩⟩
end
end Fr
namespace Fr
open PySem L2
/-- a module's constant -/
def Gc (K : PySem.W.Frag) (mg : Str → Option Value) (x : Str) (d : D) (v : V) : Prop := ∃ (u : Value), mg x = some u ∧ RelV v u ∧ ∀ (cl : Str → Addr) (F : Hp), R ⟨K, cl⟩ F d v
section
variable {G : Gx} {X : Cx} {K : PySem.W.Frag} {cl : Str → Addr} {E : XK} {kk : Nat} {e o b : Expr} {es : List Expr} {pos p apos : Pos} {te to tb : TE} {me mo mb : EV → Out (Rv × EV)} {F H F' H' : Hp} {ρ ρ' : EV} {σ : St} {np : Nat}
theorem se_gc {x : Str} {d : D} {v : V} (C : Cw X K E kk) (h : Gc K X.mg x d v) (hg : Gl X x := by rfl) (hd : (x == ("__debug__" : Str)) = false := by decide) : SE X K cl E (.Name x pos) (tC v) (mC d) :=
  let q := h.choose_spec
  ⟨pe_glob hg q.1 q.2.1 hd, md_c fun F => q.2.2 cl F⟩
/-! ### over a list, a tuple or a text -/
def iQ (m : EV → Out (Rv × EV)) : EV → Out (List D × EV) := fun ρ => (fzO (m ρ)).bind fun x => match x.1 with
  | .val (.list ds) => .ok (ds, x.2)
  | .val (.tuple ds) => .ok (ds, x.2)
  | .val (.str z) => .ok (z.cps.toList.map fun c => .str ⟨#[c]⟩, x.2)
  | _ => .bad
theorem pi_or {tg : Expr} {wi wi' : TI} (h : PI X tg e wi) (k : PI X tg e wi') : PI X tg e (fun σ H R => wi σ H R ∨ wi' σ H R) := ⟨fun pins s σ H R I q => q.elim (h.run pins s σ H R I) (k.run pins s σ H R I)⟩
theorem si_seq {tg : Expr} (C : Cw X K E kk) (h : SE X K cl E e te me) : SI X K cl E tg e (fun σ H R => iList K te σ H R ∨ iTup K te σ H R ∨ iStr te σ H R) (iQ me) := by
  refine ⟨pi_or (si_list C h).1 (pi_or (si_tup C h).1 (pi_str h.1)), fun F H ρ σ Q en p => ?_⟩
  have hl := (si_list (tg := tg) C h).2 F H ρ σ Q en
  have ht := (si_tup (tg := tg) C h).2 F H ρ σ Q en
  have hs := (si_str (tg := tg) h).2 F H ρ σ Q en
  unfold iQ at p
  unfold iL at hl
  unfold iT at ht
  unfold iS at hs
  revert p hl ht hs
  cases fzO (me ρ) with
  | bad => exact fun p _ _ _ => p.elim
  | ex c f ρ' => exact fun p hl _ _ => .inl (hl p)
  | ok x =>
    obtain ⟨r, ρ'⟩ := x
    cases r with
    | own d => exact fun p _ _ _ => p.elim
    | ref i => exact fun p _ _ _ => p.elim
    | val d =>
      cases d with
      | list ds => exact fun p hl _ _ => .inl (hl p)
      | tuple ds => exact fun p _ ht _ => .inr (.inl (ht p))
      | str z => exact fun p _ _ hs => .inr (.inr (hs p))
      | none => exact fun p _ _ _ => p.elim
      | bool b => exact fun p _ _ _ => p.elim
      | int b => exact fun p _ _ _ => p.elim
      | dict b => exact fun p _ _ _ => p.elim
/-! ### in, not in -/
def inL : D → D → Option Sl
  | d, .list ds => if (SeqAt.shaped d && SeqAt.shaped (.list ds)) = true then some (.val (.bool (ds.any fun z => PyData.eqv z d))) else none
  | _, _ => none
def flatD : D → Bool
  | .none => true
  | .bool _ => true
  | .int _ => true
  | .str _ => true
  | _ => false
theorem R.flat {d : D} {v : V} (h : R G F d v) (f : flatD d = true) : flatV v = true := by cases h <;> first | rfl | cases f
theorem Rd.flat {d : D} {v : V} (h : Rd G F H d v) (f : flatD d = true) : R G F d v := by
  cases d <;> first | (cases h; constructor) | cases f
theorem Rs.flat {ds : List D} {vs : List V} (h : Rs G F ds vs) (f : ds.all flatD = true) : vs.all flatV = true := by
  induction ds generalizing vs with
  | nil => cases h; rfl
  | cons d ds ih =>
    cases h with
    | cons r1 r2 =>
      simp only [List.all_cons, Bool.and_eq_true] at f ⊢
      exact ⟨r1.flat f.1, ih r2 f.2⟩
def inT : D → D → Option Sl
  | d, .tuple ds => if (flatD d && ds.all flatD) = true then some (.val (.bool (ds.any fun z => PyData.eqv z d))) else none
  | _, _ => none
def inD (d e : D) : Option Sl := (inS d e).or ((inL d e).or (inT d e))
def rInA (K : PySem.W.Frag) : R2 := fun x y H Q => (∃ (c : Nat) (z : Str), x = .str ⟨#[c]⟩ ∧ y = .str z ∧ Q (.bl (decide (c ∈ z.cps.toList))) H) ∨ rInD K x y H Q ∨ rIn K false x y H Q
theorem or_in (C : Cw X K E kk) : OpR X (compareOp .In) (rInA K) := C.kq ▸ op_in_sign.or ((op_inD C.u65).or op_in_seq)
end
end Fr
namespace Fr
open PySem L2
section
variable {G : Gx} {X : Cx} {K : PySem.W.Frag} {cl : Str → Addr} {E : XK} {kk : Nat} {e o b : Expr} {es : List Expr} {pos p apos : Pos} {te to tb : TE} {me mo mb : EV → Out (Rv × EV)} {F H F' H' : Hp} {ρ ρ' : EV} {σ : St} {np : Nat}
/-! ### a tuple times a number, a text times a number -/
/-- at least two times, not empty -/
def rTimes (K : PySem.W.Frag) : R2 := fun x y H Q => ∃ l n xs, x = .ref l ∧ y = .int n ∧ SqT K H l xs ∧ xs ≠ [] ∧ 2 ≤ n ∧ (xs.length : Int) * n ≤ 1000000 ∧ ∀ p, H p = none → Q (.ref p) (upd H p (.tup (List.replicate n.toNat xs).flatten))
theorem op_times : OpR X (binaryOp .Mult) (rTimes X.K) := by
  intro pins s σ H x y v u Q I rx ry h
  obtain ⟨l, n, xs, rfl, rfl, hT, hne, h2, hz, q⟩ := h
  cases rx
  obtain ⟨tk, rfl⟩ := ry
  obtain ⟨its, r, ⟨⟨cls, dd, data, sl⟩, ho, hc, m, hd⟩, hs⟩ := I.tuple hT
  simp only at hc hd
  subst hc hd
  have hle : its.length = xs.length := r.length.symm
  have hpos : 0 < xs.length := List.length_pos_iff.mpr hne
  have h1 : (1 : Int) * n ≤ (xs.length : Int) * n := Int.mul_le_mul_of_nonneg_right (by omega) (by omega)
  have hn6 : n ≤ 1000000 := by omega
  have nat : xs.length * n.toNat ≤ 1000000 := by
    have e1 : ((xs.length * n.toNat : Nat) : Int) = (xs.length : Int) * n := by rw [Int.natCast_mul, Int.toNat_of_nonneg (by omega)]
    omega
  have emp : its.toArray.isEmpty = false := by
    cases its with
    | nil => simp at hle; omega
    | cons a b => rfl
  have sz : ((its.toArray.size : Nat) : Int) * n ≤ 1000000 := by rw [List.size_toArray, hle]; exact hz
  have fl : (List.replicate n.toNat its).flatten.length ≤ 1000000 := by rw [PyProof.Rows.lm_len_rep_flat, hle, Nat.mul_comm]; exact nat
  have big : (1000000 : Nat) ≤ sizeLine := by rw [sizeLine_eq]; decide
  have c0 : (decide (n < -(2 ^ 63)) || decide (n ≥ 2 ^ 63)) = false := by rw [decide_eq_false (by omega), decide_eq_false (by omega)]; rfl
  have c1 : (its.toArray.isEmpty || n == 1) = false := by rw [emp, Bool.false_or]; exact beq_eq_false_iff_ne.mpr (by omega)
  have c2 : (decide (n ≤ 0) || its.toArray.isEmpty) = false := by rw [emp, Bool.or_false]; exact decide_eq_false (by omega)
  have c4 : Builtin.Tuple.tupleTooMany (((its.toArray.size : Nat) : Int) * n) = false := by
    unfold Builtin.Tuple.tupleTooMany
    exact decide_eq_false (by have := big; omega)
  refine wpAny_binaryOp_repeat_ref (T := "tuple") (U := "int") (by decide) ⟨_, ho, rfl⟩ (fun s' => PySem.typeIs_int s' n tk) noFill_tuple_mul F.fills_int_mul F.slot_int_rmul repeat_tuple F.slot_int_index.lookup
    (call_meets F.slot_int_rmul (PySem.typeIs_int s n tk) F.entry_int_rmul (F.args_int_rmul_2 _ _) (int_rmul_tuple n tk l its.toArray m dd sl)
      ⟨ho, rfl, ⟨_, ho, rfl⟩, call_meets F.slot_tuple_mul ⟨_, ho, rfl⟩ F.entry_tuple_mul (F.args_tuple_mul_2 _ _) (tuple_mulW l its.toArray m dd sl n tk c0 c1 c2 (by omega) c4 (by rw [size_rep, List.size_toArray]; omega)) ⟨ho, ?_⟩⟩)
  rw [size_rep]
  refine ⟨.ref s.heap.objs.size, _, I.laid (t' := s.toks) (o := .tup (List.replicate n.toNat xs).flatten) (fun b ob z => Heap.get?_push_of_some _ z) (Nat.le_refl _) ?_, rfl, q _ (I.hok.fresh (Nat.le_refl _))⟩
  exact ⟨by rw [PyProof.Rows.lm_len_rep_flat, Nat.mul_comm]; omega, _, r.rep n.toNat, PyProof.Rows.IsTup.new _ _⟩
def mulT : D → D → Option Sl
  | .tuple xs, .int n => if xs ≠ [] ∧ 2 ≤ n ∧ (xs.length : Int) * n ≤ 1000000 ∧ stD (List.replicate n.toNat xs).flatten = false then some (.val (.tuple (List.replicate n.toNat xs).flatten)) else none
  | _, _ => none
theorem v_mulT : Op2 G (rTimes G.K) mulT := fun F H d e x y Q s rx ry h => by
  cases d <;> cases e <;> first | exact h.elim | skip
  rename_i xs n
  simp only [mulT] at h
  by_cases q : xs ≠ [] ∧ 2 ≤ n ∧ (xs.length : Int) * n ≤ 1000000 ∧ stD (List.replicate n.toNat xs).flatten = false
  · rw [if_pos q] at h
    obtain ⟨a, ys, rfl, h1, r1⟩ := rx
    refine ⟨a, n, ys, rfl, ry, sqT_same s h1.sq, fun z => q.1 ?_, q.2.1, by rw [r1.length]; exact q.2.2.1, fun p n => okS_tup s q.2.2.2 h (r1.rep _) n⟩
    subst z; cases r1; rfl
  · rw [if_neg q] at h; exact h.elim
def mulS : D → D → Option Sl
  | .str x, .int n => if 2 ≤ n ∧ 0 < x.length ∧ (x.length : Int) * n ≤ 1000000 then some (.val (.str ⟨(List.replicate n.toNat x.cps).foldl (· ++ ·) #[]⟩)) else none
  | _, _ => none
def rTimesS : R2 := fun x y H Q => ∃ z n, x = .str z ∧ y = .int n ∧ 2 ≤ n ∧ 0 < z.length ∧ (z.length : Int) * n ≤ 1000000 ∧ Q (.str ⟨(List.replicate n.toNat z.cps).foldl (· ++ ·) #[]⟩) H
theorem len_reps (a : Array Nat) : ∀ (n : Nat) (acc : Array Nat), ((List.replicate n a).foldl (· ++ ·) acc).size = acc.size + n * a.size
  | 0, acc => by simp
  | n + 1, acc => by
    rw [List.replicate_succ, List.foldl_cons, len_reps a n, Array.size_append, Nat.succ_mul]; omega
theorem op_timesS : OpR X (binaryOp .Mult) rTimesS := by
  intro pins s σ H x y v u Q I rx ry h
  obtain ⟨z, n, rfl, rfl, h2, h0, hz, q⟩ := h
  obtain ⟨t, rfl⟩ := rx
  obtain ⟨tk, rfl⟩ := ry
  have h1 : (1 : Int) * n ≤ (z.length : Int) * n := Int.mul_le_mul_of_nonneg_right (by omega) (by omega)
  have nat : z.length * n.toNat ≤ 1000000 := by
    have e1 : ((z.length * n.toNat : Nat) : Int) = (z.length : Int) * n := by rw [Int.natCast_mul, Int.toNat_of_nonneg (by omega)]
    omega
  have big : (1000000 : Nat) ≤ sizeLine := by rw [sizeLine_eq]; decide
  have n1 : (n == 1 || z.length == 0) = false := by
    rw [beq_eq_false_iff_ne.mpr (show n ≠ 1 by omega), beq_eq_false_iff_ne.mpr (show z.length ≠ 0 by omega)]; rfl
  refine PySem.P.mul_str (by rw [decide_eq_false (by omega), decide_eq_false (by omega)]; rfl) (fun _ _ => ?_) (fun _ _ => ?_) ?_
  · have d1 : (1000000 : Int) ≤ (2 ^ 63 - 1) / n := (Int.le_ediv_iff_mul_le (by omega)).mpr (by
      have : (1000000 : Int) * n ≤ 1000000 * 1000000 := Int.mul_le_mul_of_nonneg_left (by omega) (by omega)
      omega)
    have : (z.length : Int) ≤ 1000000 := by
      have h3 : (z.length : Int) * 1 ≤ (z.length : Int) * n := Int.mul_le_mul_of_nonneg_left (by omega) (by omega)
      omega
    omega
  · unfold Builtin.Str.tooLong
    exact decide_eq_false (by omega)
  · rw [if_neg (show ¬ n < 1 by omega), if_neg (by rw [n1]; exact Bool.false_ne_true)]
    refine ⟨?_, ?_⟩
    · show (_ : Array Nat).size ≤ _
      rw [len_reps]
      have e2 : n.toNat * z.cps.size = z.length * n.toNat := Nat.mul_comm _ _
      simp only [Array.size_empty, List.size_toArray, List.length_nil]
      omega
    · exact ⟨.str _, H, I.tok _, ⟨_, rfl⟩, q⟩
theorem v_mulS : Op2 G rTimesS mulS := fun F H d e x y Q s rx ry h => by
  cases d <;> cases e <;> first | exact h.elim | skip
  rename_i z n
  simp only [mulS] at h
  by_cases q : 2 ≤ n ∧ 0 < z.length ∧ (z.length : Int) * n ≤ 1000000
  · rw [if_pos q] at h; exact ⟨z, n, rx, ry, q.1, q.2.1, q.2.2, okS_val s h (.str _)⟩
  · rw [if_neg q] at h; exact h.elim
def mulA (d e : D) : Option Sl := (mulD d e).or ((mulT d e).or (mulS d e))
def rMulA (K : PySem.W.Frag) : R2 := fun x y H Q => (rI CMulW (fun i j => .int (i * j)) x y H Q ∨ rRep x y H Q) ∨ rTimes K x y H Q ∨ rTimesS x y H Q
theorem or_mulA (C : Cw X K E kk) : OpR X (binaryOp .Mult) (rMulA K) := C.kq ▸ or_mul.or (op_times.or op_timesS)
theorem v_mulA : Op2 G (rMulA G.K) mulA := v_mul.or (v_mulT.or v_mulS)
/-! ### {k: v, ..} with numbers and texts as keys -/
def encK (kds : List (Key × D)) : List (D × D) := kds.map fun p => (kD p.1, p.2)
inductive Rk (G : Gx) (F : Hp) : List (Key × D) → List (Key × V) → Prop
  | nil : Rk G F [] []
  | cons {k : Key} {d : D} {v : V} {es : List (Key × D)} {vs : List (Key × V)} : R G F d v → Rk G F es vs → Rk G F ((k, d) :: es) ((k, v) :: vs)
theorem Rk.rk {es : List (Key × D)} {vs : List (Key × V)} (h : Rk G F es vs) : RK G F (encK es) vs := by
  induction h with
  | nil => exact .nil
  | cons r _ ih => exact .cons r ih
theorem Rk.append {es es' : List (Key × D)} {vs vs' : List (Key × V)} (h : Rk G F es vs) (h' : Rk G F es' vs') : Rk G F (es ++ es') (vs ++ vs') := by
  induction h with
  | nil => exact h'
  | cons r _ ih => exact .cons r ih
theorem Rk.mono {F F' : Hp} {es : List (Key × D)} {vs : List (Key × V)} (s : Same F F') (h : Rk G F es vs) : Rk G F' es vs := by
  induction h with
  | nil => exact .nil
  | cons r _ ih => exact .cons (r.mono s) ih
theorem Rk.len {es : List (Key × D)} {vs : List (Key × V)} (h : Rk G F es vs) : vs.length = es.length := by
  induction h with
  | nil => rfl
  | cons _ _ ih => simp [ih]
def putA {κ α : Type} [DecidableEq κ] (kvs : List (κ × α)) (k : κ) (v : α) : List (κ × α) :=
  if (kvs.any fun kv => decide (kv.1 = k)) = true then kvs.map (fun kv => if kv.1 = k then (kv.1, v) else kv) else kvs ++ [(k, v)]
theorem Rk.any {es : List (Key × D)} {vs : List (Key × V)} (h : Rk G F es vs) (k : Key) : (vs.any fun kv => decide (kv.1 = k)) = es.any fun kv => decide (kv.1 = k) := by
  induction h with
  | nil => rfl
  | cons _ _ ih => simp only [List.any_cons, ih]
theorem Rk.put {es : List (Key × D)} {vs : List (Key × V)} {d : D} {v : V} (h : Rk G F es vs) (k : Key) (r : R G F d v) : Rk G F (putA es k d) (putK vs k v) := by
  unfold putA putK
  rw [h.any k]
  by_cases q : (es.any fun kv => decide (kv.1 = k)) = true
  · rw [if_pos q, if_pos q]
    clear q
    induction h with
    | nil => exact .nil
    | @cons k' d' v' es vs r' _ ih =>
      simp only [List.map_cons]
      by_cases z : k' = k
      · rw [if_pos z, if_pos z]; exact .cons r ih
      · rw [if_neg z, if_neg z]; exact .cons r' ih
  · rw [if_neg q, if_neg q]; exact h.append (.cons r .nil)
def mergeA (kvs more : List (Key × D)) : List (Key × D) := more.foldl (fun acc kv => putA acc kv.1 kv.2) kvs
theorem Rk.merge {more : List (Key × D)} {mv : List (Key × V)} (hm : Rk G F more mv) : ∀ {es : List (Key × D)} {vs : List (Key × V)}, Rk G F es vs → Rk G F (mergeA es more) (mergeK vs mv) := by
  induction hm with
  | nil => exact fun h => h
  | cons r _ ih => exact fun h => ih (h.put _ r)
def keyD : D → Option Key
  | .int i => some (.inl i)
  | .str x => some (.inr x)
  | _ => none
def keysD : List (D × D) → Option (List (Key × D))
  | [] => some []
  | (k, d) :: r => match keyD k, keysD r with
    | some k, some r => some ((k, d) :: r)
    | _, _ => none
abbrev Mx := EV → Out (Rv × EV)
def dPairs : List (Mx × Mx) → EV → Out (List (D × D) × EV)
  | [], ρ => .ok ([], ρ)
  | (k, v) :: r, ρ => (fzO (k ρ)).bind fun x => match x.1 with
    | .val dk => (fzO (v x.2)).bind fun y => match y.1 with
      | .val dv => (dPairs r y.2).bind fun z => .ok ((dk, dv) :: z.1, z.2)
      | _ => .bad
    | _ => .bad
inductive RPs (G : Gx) (F : Hp) : List (D × D) → List (V × V) → Prop
  | nil : RPs G F [] []
  | cons {k d : D} {x y : V} {es : List (D × D)} {vs : List (V × V)} : R G F k x → R G F d y → RPs G F es vs → RPs G F ((k, d) :: es) ((x, y) :: vs)
theorem RPs.keys {es : List (D × D)} {vs : List (V × V)} (h : RPs G F es vs) : ∀ kds, keysD es = some kds → ∃ kvs : List (Key × V), vs = kvs.map (fun kv => (kV kv.1, kv.2)) ∧ Rk G F kds kvs := by
  induction h with
  | nil => intro kds q; simp [keysD] at q; subst q; exact ⟨[], rfl, .nil⟩
  | @cons k d x y es vs r1 r2 _ ih =>
    intro kds q
    simp only [keysD] at q
    cases z1 : keyD k with
    | none => rw [z1] at q; cases q
    | some k' =>
      cases z2 : keysD es with
      | none => rw [z1, z2] at q; cases q
      | some r' =>
        rw [z1, z2] at q
        injection q with q
        subst q
        obtain ⟨kvs, e1, e2⟩ := ih r' z2
        refine ⟨(k', y) :: kvs, ?_, .cons r2 e2⟩
        rw [e1, List.map_cons]
        congr 2
        cases k <;> first | (simp [keyD] at z1; done) | (simp only [keyD] at z1; injection z1 with z1; subst z1; cases r1; rfl)
inductive SPp (X : Cx) (K : PySem.W.Frag) (cl : Str → Addr) (E : XK) (pos : Pos) : List (Option Expr) → List Expr → List (TE × TE) → List (Mx × Mx) → Prop
  | nil : SPp X K cl E pos [] [] [] []
  | cons {k v : Expr} {ks : List (Option Expr)} {vs : List Expr} {tk tv : TE} {mk mv : Mx} {ts : List (TE × TE)} {ms : List (Mx × Mx)} : SE X K cl E k tk mk → SE X K cl E v tv mv → SPp X K cl E pos ks vs ts ms → SPp X K cl E pos (some k :: ks) (v :: vs) ((tk, tv) :: ts) ((mk, mv) :: ms)
theorem SPp.pps {ks : List (Option Expr)} {vs : List Expr} {ts : List (TE × TE)} {ms : List (Mx × Mx)} (h : SPp X K cl E pos ks vs ts ms) : PPs X pos ks vs ts := by
  induction h with
  | nil => exact pps_nil
  | cons h1 h2 _ ih => exact pps_cons h1.1 h2.1 ih
theorem SPp.md {ks : List (Option Expr)} {vs : List Expr} {ts : List (TE × TE)} {ms : List (Mx × Mx)} (h : SPp X K cl E pos ks vs ts ms) : ∀ {F H : Hp} {ρ : EV} {σ : St} {Q : List (V × V) → Hp → Prop}, EnvR ⟨K, cl⟩ F H ρ σ →
    PostG (fun (x : List (D × D) × EV) => ∀ F' H' ps, Stp ⟨K, cl⟩ F H ρ F' H' x.2 σ → RPs ⟨K, cl⟩ F' x.1 ps → Q ps H') (XC ⟨K, cl⟩ E F H σ ρ) (dPairs ms ρ) → tPairs ts σ H Q := by
  induction h with
  | nil => exact fun en p => p _ _ [] (.refl en) .nil
  | @cons k v ks vs tk tv mk mv ts ms h1 h2 _ ih =>
    intro F H ρ σ Q en p
    simp only [dPairs] at p
    refine h1.2.then en p fun F1 H1 ρ1 r x s hr rr p1 => ?_
    cases r with
    | own d => exact p1.elim
    | ref i => exact p1.elim
    | val dk =>
    dsimp only at p1
    refine h2.2.then s.env p1 fun F2 H2 ρ2 r2 y s2 hr2 rr2 p2 => ?_
    cases r2 with
    | own d => exact p2.elim
    | ref i => exact p2.elim
    | val dv =>
    dsimp only at p2
    refine ih s2.env ?_
    refine PostG.imp ((post_bind _ _).mp p2) (fun z q F' H' ps t rp => ?_) fun _ _ _ q => q
    exact q F' H' _ ((s.trans s2).trans t) (.cons ((R.mono s2.fr rr).mono t.fr) (R.mono t.fr rr2) rp)
def mDisp (ms : List (Mx × Mx)) : EV → Out (Rv × EV) := fun ρ => (dPairs ms ρ).bind fun x => match keysD x.1 with
  | some kds => if kds.length ≤ 15 then .ok (.own (.dict (encK (mergeA [] kds))), x.2) else .bad
  | none => .bad
theorem se_disp {ks : List (Option Expr)} {vs : List Expr} {ts : List (TE × TE)} {ms : List (Mx × Mx)} (h : SPp X K cl E pos ks vs ts ms) (hall : ks.all (·.isSome) = true := by rfl) (hl : ks.length = vs.length := by rfl) (h0 : ks ≠ [] := by intro z; cases z) (h15 : ks.length ≤ 15 := by decide) : SE X K cl E (.Dict ks vs pos) (tDisp ts) (mDisp ms) :=
  ⟨pe_disp h.pps hall hl h0 h15, fun F H ρ σ Q en p q n => by
    have g1 : Grow F H F (upd H q (.dK [])) := .beside en.same n
    have t1 := g1.stp en
    have nw : ∀ i, ¬ Ow ρ σ i q := fun i w => by obtain ⟨y, hy⟩ := en.there w; rw [n] at hy; cases hy
    unfold mDisp at p
    refine h.md t1.env (PostG.imp ((post_bind _ _).mp p) (fun x z F' H' ps t rp => ?_) fun _ _ _ z => z.step t1)
    have h1 : H' q = some (.dK []) := t.keep _ _ upd_same nw
    have f1 : F' q = none := by
      cases y : F' q with
      | none => rfl
      | some o =>
        rcases t.new _ o y with u | u
        · rw [en.same.free n] at u; cases u
        · exact (u.ne upd_same nofun).elim
    refine ⟨h1, ?_⟩
    cases y : keysD x.1 with
    | none => rw [y] at z; exact z.elim
    | some kds =>
      rw [y] at z
      dsimp only at z
      obtain ⟨kvs, e1, e2⟩ := rp.keys kds y
      by_cases c : kds.length ≤ 15
      · rw [if_pos c] at z
        refine ⟨kvs, e1, by rw [e2.len]; exact c, ?_⟩
        have tt := t1.trans t
        refine z F' _ _ (tt.upd' n f1 h1 fun i w => nw i ((tt.ow i).mp w)) ⟨q, rfl, f1, n, .inl ⟨_, upd_same, ?_⟩⟩
        exact (e2.merge (es := []) (vs := []) .nil).rk
      · rw [if_neg c] at z; exact z.elim⟩
/-! ### repr of a dict of flat things -/
theorem flat_reads {h : Heap} {d : D} {v : V} {u : Value} (r : R G F d v) (rv : RelV v u) (f : flatD d = true) : Reads h u d [] := by
  have nf : ∀ {b : Bool}, b = true → b = false → False := fun h k => by rw [h] at k; cases k
  cases r <;> (try exact (nf f rfl).elim)
  · cases rv; exact .none
  · cases rv; exact .bool _
  · obtain ⟨t, rfl⟩ := rv; exact .int _ _
  · obtain ⟨t, rfl⟩ := rv; exact .str _ _
theorem key_reads {h : Heap} {k : Key} {u : Value} (q : keyIs k u = true) : Reads h u (kD k) [] := by
  rcases keyIs_shape q with ⟨i, t, rfl, rfl⟩ | ⟨x, t, rfl, rfl⟩
  · exact .int _ _
  · exact .str _ _
def flatKv (es : List (D × D)) : Bool := es.all fun p => flatD p.2
theorem dict_readsAll {P : Program} {w : World} {h : Heap} : ∀ {es : List (D × D)} {kvs : List (Key × V)} {vs : List (Key × Value)} {ens : List DictEntry}, RK G F es kvs → KV kvs vs → Pairs (mixKind P w) ens vs → flatKv es = true →
    ReadsAll h (ens.map (·.key)) (es.map (·.1)) [] ∧ ReadsAll h (ens.map (·.val)) (es.map (·.2)) []
  | _, _, _, _, .nil, .nil, .nil, _ => ⟨.nil, .nil⟩
  | _, _, _, _, .cons r1 r2, .cons ⟨e1, e2⟩ k2, .cons p1 p2 p3, f => by
    simp only [flatKv, List.all_cons, Bool.and_eq_true] at f
    obtain ⟨h1, h2⟩ := dict_readsAll (h := h) r2 k2 p3 f.2
    dsimp only at e1 e2
    subst e1
    exact ⟨ReadsAll.cons (as := []) (key_reads p1) h1, ReadsAll.cons (as := []) (flat_reads r1 (by have z := e2; rw [← p2] at z; exact z) f.1) h2⟩
def reprK : D → Option Sl
  | .dict es => if ((keysD es).isSome && !es.isEmpty && flatKv es && (PyData.dict es).showable && decide ((PyData.dict es).depth ≤ 64) && decide ((PyData.dict es).shown.length ≤ sizeLine) ) = true then some (.val (.str (PyData.dict es).shown)) else none
  | _ => none
def rReprK (G : Gx) : List V → Hp → VK → Prop := fun xs H Q => ∃ a es kvs F, xs = [.ref a] ∧ H a = some (.dK kvs) ∧ RK G F es kvs ∧ flatKv es = true ∧ (PyData.dict es).showable = true ∧ (PyData.dict es).depth ≤ 64 ∧ (PyData.dict es).shown.length ≤ sizeLine ∧ Q (.str (PyData.dict es).shown) H
theorem call_reprK (C : Cw X K E kk) : CallR X (.builtin "repr") (rReprK ⟨K, cl⟩) := by
  intro pins s σ H xs us Q I r h
  obtain ⟨a, es, kvs, F, rfl, ha, rk, hf, hs, hd, hl, q⟩ := h
  obtain ⟨u, rfl, rx⟩ := vals1 r
  cases rx
  obtain ⟨_, nsys, vs, kv, o, ens, ep, ho, hex, hdat, hko, hpr, hnd⟩ := I.hok a _ ha
  obtain ⟨h1, h2⟩ := dict_readsAll (h := s.heap) rk kv hpr hf
  have rd : Reads s.heap (.ref a) (.dict es) (a :: [] ++ []) := .dict ho hex.1 hdat h1 h2
  have hu := C.room.un
  refine PySem.repr_of_reads' rd hs (fun _ z => ?_) C.gd (by omega) (fun _ _ e => e) (fun h' k tk kp => ⟨.str _, H, I.kept kp, ⟨k, rfl⟩, q⟩) hl
  simp only [List.append_nil, List.mem_cons, List.not_mem_nil, or_false] at z
  rw [z, beq_self_eq_true] at nsys; cases nsys
theorem v_reprK : OpN G (rReprK G) (one reprK) := v_one fun F H d x Q s rx h => by
  cases d with
  | dict es =>
    simp only [reprK] at h
    by_cases q : ((keysD es).isSome && !es.isEmpty && flatKv es && (PyData.dict es).showable && decide ((PyData.dict es).depth ≤ 64) && decide ((PyData.dict es).shown.length ≤ sizeLine) ) = true
    · rw [if_pos q] at h
      simp only [Bool.and_eq_true, decide_eq_true_eq, Bool.not_eq_true'] at q
      obtain ⟨a, rfl, k⟩ := rx
      rcases k with ⟨kvs, k, r⟩ | ⟨kvs, es', rfl, k, r⟩ | ⟨c, es', dx, fs, rfl, k, r⟩ | ⟨ns, rfl, k⟩ | ⟨_, _, _, rfl, _⟩ | ⟨_, _, _, rfl, _⟩
      · exact ⟨a, es, kvs, F, rfl, k, r, q.1.1.1.2, q.1.1.2, q.1.2, q.2, okS_val s h (.str _)⟩
      · cases q.1.1.1.1.1
      · cases q.1.1.1.1.1
      · cases q.1.1.1.1.1
      · cases q.1.1.1.1.1
      · cases q.1.1.1.1.1
    · rw [if_neg q] at h; exact h.elim
  | _ => exact h.elim
def reprA : List D → Option Sl := fun ds => (reprD ds).or (one reprK ds)
theorem or_repr (C : Cw X K E kk) : CallR X (.builtin "repr") (fun xs H Q => rRepr K xs H Q ∨ rReprK ⟨K, cl⟩ xs H Q) := (call_repr C).or (call_reprK C)
theorem v_reprA : OpN ⟨K, cl⟩ (fun xs H Q => rRepr K xs H Q ∨ rReprK ⟨K, cl⟩ xs H Q) reprA := OpN.or v_repr v_reprK
end
end Fr
namespace Fr
open PySem L2
/-! ### the end of a law -/
def scrD (ns : List Int) : D := .dict [(.none, .list (ns.map PyData.int))]
def Plain (mf : Mf) (n : Nat) : Prop := ∀ ns : List Int, ns.length ≤ n → ∃ ρ, mf [some (.val (scrD ns))] = .ok (.val (.bool true), ρ)
theorem sp_end {K : PySem.W.Frag} {cl : Str → Addr} {mf : Mf} {n : Nat} (h : Plain mf n) {H : Hp} {a : Addr} {ns : List Int} (hl : ns.length ≤ n) (hS : SqL K H a (ns.map V.int)) : SpF ⟨K, cl⟩ mf [.ref a] H (fun v _ => v = .bl true) E0 := by
  obtain ⟨ρ, e⟩ := h ns hl
  refine ⟨H, [some (.val (scrD ns))], ⟨fun _ _ z => z, rfl, fun i d z => ?_, fun i d z => ?_, fun i j b y z => ?_⟩, fun x hx => ?_, ?_⟩
  · match i, z with
    | 0, z =>
      injection z with z; injection z with z; injection z with z; subst z
      exact ⟨_, rfl, .scr hS⟩
    | _ + 1, z => cases z
  · match i, z with
    | 0, z => injection z with z; injection z with z; cases z
    | _ + 1, z => cases z
  · obtain ⟨⟨d, y⟩, _⟩ := y
    match i, y with
    | 0, y => injection y with y; injection y with y; cases y
    | _ + 1, y => cases y
  · intro z; subst z; simp at hx
  · rw [e]
    intro F' H' v _ r
    exact (show R _ F' (.bool true) v from r).rd (F := F') (H := F') fun _ _ z => z
theorem gc_int {K : PySem.W.Frag} {mg : Str → Option Value} {h : Heap} {x : Str} {i : Int} {t : Tok} (X : K.In h) (G : h.Ns mainGlobals mg) (a : PySem.W.nsIn K mainGlobals x = some (some (.int i t))) : Gc K mg x (.int i) (.int i) :=
  ⟨_, PySem.W.mg_of X G a, ⟨t, rfl⟩, fun _ _ => .int i⟩
end Fr
namespace Fr
open PySem L2
section
variable {G : Gx} {X : Cx} {K : PySem.W.Frag} {cl : Str → Addr} {E : XK} {kk : Nat} {e o b : Expr} {es : List Expr} {pos p apos : Pos} {te to tb : TE} {me mo mb : EV → Out (Rv × EV)} {t : TA} {m : EV → Out (List Rv × EV)} {F H F' H' : Hp} {ρ ρ' : EV} {σ : St} {np : Nat} {st : Stmt}
/-! ### what is never come to -/
theorem ss_bad : SS X K cl E np st (fun _ _ _ => False) sBad := ⟨⟨fun _ _ _ _ _ _ h => h.elim⟩, fun _ _ _ _ _ _ _ _ p => p⟩
/-! ### fields of objects -/
def lookF : List (D × D) → Str → Option D
  | (.str k, d) :: r, f => if f = k then some d else lookF r f
  | _, _ => none
theorem RF.look {es : List (D × D)} {fs : List (Str × V)} (h : RF G F es fs) (f : Str) : (∀ d, lookF es f = some d → ∃ v, fs.lookup f = some v ∧ R G F d v) ∧ (lookF es f = none → fs.lookup f = none) := by
  match h with
  | .nil => exact ⟨(fun d q => nomatch q), fun _ => rfl⟩
  | .cons (k := k) (v := v) (vs := vs) (es := es) r t =>
    have ih := RF.look t f
    simp only [lookF]
    by_cases q : f = k
    · subst q
      rw [if_pos rfl]
      have e1 : List.lookup f ((f, v) :: vs) = some v := by rw [List.lookup_cons, beq_self_eq_true]
      exact ⟨fun d z => by injection z with z; subst z; exact ⟨v, e1, r⟩, fun z => by cases z⟩
    · rw [if_neg q]
      have e1 : List.lookup f ((k, v) :: vs) = List.lookup f vs := by rw [List.lookup_cons, beq_eq_false_iff_ne.mpr q]
      rw [e1]; exact ih
def attrD (c f : Str) : D → Option Sl
  | .dict ((.none, .str c') :: es) => if c' = c then (lookF es f).map .val else none
  | _ => none
theorem Rd.obj {c : Str} {es : List (D × D)} {v : V} (h : Rd G F H (.dict ((.none, .str c) :: es)) v) : ∃ a dx fs, v = .ref a ∧ H a = some (.ins (G.cl c) dx fs) ∧ RF G F es fs := by
  obtain ⟨a, rfl, q⟩ := h
  rcases q with ⟨kvs, q, r⟩ | ⟨kvs, es', z, q, r⟩ | ⟨c', es', dx, fs, z, q, r⟩ | ⟨ns, z, q⟩ | ⟨_, _, _, z, _⟩ | ⟨_, _, _, z, _⟩
  · generalize hz : ((PyData.none, PyData.str c) :: es) = l at r
    cases r with
    | nil => cases hz
    | @cons k _ _ _ _ _ _ => cases k <;> (injection hz with hz; injection hz with hz; cases hz)
  · injection z with z; injection z with z; cases z
  · injection z with z1 z2
    injection z1 with _ z1
    injection z1 with z1
    subst z1 z2
    exact ⟨a, dx, fs, rfl, q, r⟩
  · injection z with z; injection z with _ z; cases z
  · injection z with z; injection z with z _; cases z
  · injection z with z; injection z with z _; cases z
theorem v_attr {c f : Str} (hc : Cls G.K (G.cl c)) (hn : NoAttr G.K (G.cl c) f) : Op1 G (fun x H1 Q => ∃ a C dx fs v, x = .ref a ∧ H1 a = some (.ins C dx fs) ∧ Cls G.K C ∧ NoAttr G.K C f ∧ fs.lookup f = some v ∧ Q v H1) (attrD c f) := fun F H d x Q s rx h => by
  unfold attrD at h
  split at h
  · rename_i c' es
    by_cases q : c' = c
    · rw [if_pos q] at h
      subst q
      obtain ⟨a, dx, fs, rfl, k, r⟩ := rx.obj
      cases z : lookF es f with
      | none => rw [z] at h; exact h.elim
      | some d =>
        rw [z] at h
        obtain ⟨v, l, rv⟩ := (r.look f).1 d z
        exact ⟨a, _, dx, fs, v, rfl, k, hc, hn, l, okS_val s h rv⟩
    · rw [if_neg q] at h; exact h.elim
  · exact h.elim
theorem se_attr {c f : Str} (C : Cw X K E kk) (hc : Cls K (cl c)) (hn : NoAttr K (cl c) f) (h : SE X K cl E e te me) (hb : attributeBase e f X.env (eval e X.env) = eval e X.env := by rfl) : SE X K cl E (.Attribute e f pos) (tFld K te f) (m1 (attrD c f) me) := by
  obtain ⟨kq, _, _, _, _⟩ := C
  subst kq
  exact ⟨pe_fld h.1 hb, md_1 (v_attr (G := ⟨X.K, cl⟩) hc hn) h.2⟩
/-! ### methods of objects -/
def hasM (c x : Str) : D → Bool
  | .dict ((.none, .str c') :: es) => decide (c' = c) && (lookF es x).isNone
  | _ => false
def mMeth (mf : Mf) (c x : Str) (dds : List D) (o : EV → Out (Rv × EV)) (as : EV → Out (List Rv × EV)) : EV → Out (Rv × EV) := fun ρ => (fzO (o ρ)).bind fun r => match r.1 with
  | .val d => if hasM c x d = true then (as r.2).bind fun y => callF mf y.2 (.val d :: (y.1 ++ dds.map Rv.val)) else .bad
  | _ => .bad
theorem md_meth {mf : Mf} {c x : Str} {dds : List D} {dvs : List V} (hd : ∀ F, Rs G F dds dvs) (ho : Md G E to mo) (ha : MdA G E t m) : Md G E (tMeth (G.cl c) x (SpF G mf) dvs E to t) (mMeth mf c x dds mo m) := fun F H ρ σ Q en p => by
  unfold mMeth at p
  refine ho.then en p fun F1 H1 ρ1 r v s hr rr p1 => ?_
  cases r with
  | own d => exact p1.elim
  | ref i => exact p1.elim
  | val d =>
    dsimp only at p1
    by_cases q : hasM c x d = true
    · rw [if_pos q] at p1
      have rv : R G F1 d v := rr
      unfold hasM at q
      split at q
      · rename_i c' es
        rw [Bool.and_eq_true, decide_eq_true_eq] at q
        obtain ⟨rfl, q2⟩ := q
        obtain ⟨a, dx, fs, rfl, k, rf⟩ := (rv.rd s.env.same).obj
        refine ⟨a, dx, fs, rfl, k, (rf.look x).2 (Option.isNone_iff_eq_none.mp q2), ?_⟩
        refine ha.then s.env p1 fun F2 H2 ρ2 rs vs s2 r2 p2 => ?_
        exact call_ok s2.env (.cons (r := .val _) (by simp) (show R G F2 _ _ from R.mono s2.fr rv) (r2.more (hd F2))) (PostG.imp p2 (fun _ z => z.step (s.trans s2) en) fun _ _ _ z => z)
      · cases q
    · rw [if_neg q] at p1; exact p1.elim
/-- a method of a class -/
structure Mth (P : Program) (w : World) (K : PySem.W.Frag) (mg : Str → Option Value) (bs : Heap) (cl : Str → Addr) (c x : Str) (k : Nat) (mf : Mf) (dds : List D) (dvs : List V) : Prop where
  cls : Cls K (cl c)
  ex : ∃ (f : Addr) (fd : FuncData) (ps : List Str) (ds : List Value), FnG P w K mg bs k f fd ps (SpF ⟨K, cl⟩ mf) ∧ Meth K (cl c) x f ∧ Binds K fd ps ds ∧ Vals dvs ds ∧ ∀ F, Rs ⟨K, cl⟩ F dds dvs
theorem se_meth {k : Nat} {mf : Mf} {c x : Str} {dds : List D} {dvs : List V} {pl : Sem Bool} (C : Cw X K E kk) (h : Mth X.prog X.w K X.mg X.base cl c x k mf dds dvs) (ho : SE X K cl E o to mo) (ha : SA X K cl E (e :: es) t m) (hk : k ≤ kk := by decide)
    (he : starEach (e :: es) X.env = (false, eval e X.env) :: starEach es X.env := by rfl) (hpl : (backTo pos (starEach es X.env)).any (·.1) = false := by rfl)
    (ht : eval (.Call (.Attribute o x apos) (e :: es) [] pos) X.env = (do let ov ← eval o X.env; standAt apos.atName; let (f, first) ← holding [ov] (getMethod ov x pl); callWith pos f first (backTo pos (starEach (e :: es) X.env)) (backToKw pos (keywordEach [] X.env))) := by rfl) :
    SE X K cl E (.Call (.Attribute o x apos) (e :: es) [] pos) (tMeth (cl c) x (SpF ⟨K, cl⟩ mf) dvs E to t) (mMeth mf c x dds mo m) := by
  obtain ⟨kq, room, gd, calm, pass⟩ := C
  subst kq
  obtain ⟨f, fd, ps, ds, F, hm, bn, hd, hdd⟩ := h.ex
  exact ⟨peg_meth (pl := pl) ho.1 h.cls hm F (room.mono hk) gd bn hd pass ha.1 he hpl ht, md_meth hdd ho.2 ha.2⟩
theorem se_meth0 {k : Nat} {mf : Mf} {c x : Str} {dds : List D} {dvs : List V} {pl : Sem Bool} (C : Cw X K E kk) (h : Mth X.prog X.w K X.mg X.base cl c x k mf dds dvs) (ho : SE X K cl E o to mo) (hk : k ≤ kk := by decide)
    (ht : eval (.Call (.Attribute o x apos) [] [] pos) X.env = (do let ov ← eval o X.env; standAt apos.atName; let (f, first) ← holding [ov] (getMethod ov x pl); callWith pos f first (backTo pos (starEach [] X.env)) (backToKw pos (keywordEach [] X.env))) := by rfl) :
    SE X K cl E (.Call (.Attribute o x apos) [] [] pos) (tMeth (cl c) x (SpF ⟨K, cl⟩ mf) dvs E to tNil) (mMeth mf c x dds mo aNil) := by
  obtain ⟨kq, room, gd, calm, pass⟩ := C
  subst kq
  obtain ⟨f, fd, ps, ds, F, hm, bn, hd, hdd⟩ := h.ex
  exact ⟨peg_meth0 (pl := pl) ho.1 h.cls hm F (room.mono hk) gd bn hd pass ht, md_meth hdd ho.2 (sa_nil (X := X)).2⟩
/-! ### properties of objects -/
theorem getprop_g {k : Nat} {C p g a dx : Addr} {fs : List (Str × V)} {f : Str} {fd : FuncData} {ps : List Str} {sp : Sp} {dvs : List V} {ds : List Value} {pins : List (Addr × Obj)} {s : Shared} {Q : VK} {b : Bool} (I : Inv X pins σ H s) (ea : H a = some (.ins C dx fs)) (c : Cls X.K C) (hp : PropOf X.K C f p g)
    (F : FnG X.prog X.w X.K X.mg X.base k g fd ps sp) (hr : Room (k + 1) X.A) (hgd : X.A.guards = some []) (hb : Binds X.K fd ps ds) (hd : Vals dvs ds) (h : sp (.ref a :: dvs) H Q E0) :
    wpAny (model X.prog X.w) X.A (getAttr (.ref a) f b) (EP X pins σ Q) X.xe s := by
  obtain ⟨mA, O, _, _, _, _⟩ := ins_get I.hok ea
  obtain ⟨od, J, _⟩ := O.look
  obtain ⟨rest, hrec⟩ := hp.rec_
  have I1 := I.tok (s.toks + 1)
  have hl : ([Value.ref a] ++ ds).length = ps.length := by
    rw [← F.len _ _ _ _ h]
    show ds.length + 1 = dvs.length + 1
    rw [hd.length]
  have hc : (PySem.W.clsIn X.K C).isSome = true := by
    obtain ⟨cd, hc, _⟩ := PySem.W.any_some c.hd
    rw [hc]
    rfl
  refine PySem.W.get_bind I.kIn J (PySem.W.plainGet_of (c.get f)).1 (PySem.W.findObj_data hc hp.at_ hp.get hp.tak) (PySem.W.plainGet_of (c.get f)).2 (wpAny_call (PySem.W.prop_get (s := { s with toks := s.toks + 1 }) I.kIn hrec ?_))
  refine codeAny_mono (F.run X.A.in1 X.stack { s with toks := s.toks + 1 } H ⟨[.ref a], []⟩ (.ref a :: ds) (.ref a :: dvs) Q E0 hr.in1 hgd I1.env0.in1 (hb _ [.ref a] I1.kIn hl) (.cons rfl hd) h) fun r s' hq => ?_
  cases r with
  | error er => obtain ⟨_, _, _, _, _, _, _, _, _, _, _, _, z⟩ := hq; exact z.elim
  | ok fl =>
    cases fl with
    | ret u =>
      obtain ⟨v, H', I3, rv, q3⟩ := I1.after hq
      show wpAny _ _ (handedOut u) _ _ _
      rw [PySem.W.handedOut_of (handed_of rv)]
      exact wpAny_pure ⟨v, H', I3, rv, q3⟩
    | next => exact False.elim hq
    | brk => exact False.elim hq
    | cont => exact False.elim hq
structure Prp (P : Program) (w : World) (K : PySem.W.Frag) (mg : Str → Option Value) (bs : Heap) (cl : Str → Addr) (c x : Str) (k : Nat) (mf : Mf) : Prop where
  cls : Cls K (cl c)
  ex : ∃ (p g : Addr) (fd : FuncData) (ps : List Str), FnG P w K mg bs k g fd ps (SpF ⟨K, cl⟩ mf) ∧ PropOf K (cl c) x p g ∧ Binds K fd ps []
def isOb (c : Str) : D → Bool
  | .dict ((.none, .str c') :: _) => decide (c' = c)
  | _ => false
def noX : Out (Rv × EV) → Out (Rv × EV)
  | .ex _ _ _ => .bad
  | x => x
theorem post_noX {Q : VK} {o : Out (Rv × EV)} (h : Post G E F H σ ρ Q (noX o)) : Post G E0 F H σ ρ Q o := by
  cases o with
  | ok a => exact h
  | ex _ _ _ => exact h.elim
  | bad => exact h
def mPrp (mf : Mf) (c : Str) (o : EV → Out (Rv × EV)) : EV → Out (Rv × EV) := fun ρ => (fzO (o ρ)).bind fun r => match r.1 with
  | .val d => if isOb c d = true then noX (callF mf r.2 [.val d]) else .bad
  | _ => .bad
theorem md_prp {mf : Mf} {c : Str} (ho : Md G E to mo) : Md G E (tProp (G.cl c) (SpF G mf) [] E0 to) (mPrp mf c mo) := fun F H ρ σ Q en p => by
  unfold mPrp at p
  refine ho.then en p fun F1 H1 ρ1 r v s hr rr p1 => ?_
  cases r with
  | own d => exact p1.elim
  | ref i => exact p1.elim
  | val d =>
    dsimp only at p1
    by_cases q : isOb c d = true
    · rw [if_pos q] at p1
      have rv : R G F1 d v := rr
      unfold isOb at q
      split at q
      · rename_i c' es
        rw [decide_eq_true_eq] at q
        subst q
        obtain ⟨a, dx, fs, rfl, k, rf⟩ := (rv.rd s.env.same).obj
        refine ⟨a, dx, fs, rfl, k, ?_⟩
        exact call_ok s.env (.cons (r := .val _) (by simp) (show R G F1 _ _ from rv) .nil) (post_noX (PostG.imp p1 (fun _ z => z.step s en) fun _ _ _ z => z))
      · cases q
    · rw [if_neg q] at p1; exact p1.elim
theorem se_prp {k : Nat} {mf : Mf} {c f : Str} (C : Cw X K E kk) (h : Prp X.prog X.w K X.mg X.base cl c f k mf) (ho : SE X K cl E o to mo) (hk : k + 1 ≤ kk := by decide) (hab : attributeBase o f X.env (eval o X.env) = eval o X.env := by rfl) :
    SE X K cl E (.Attribute o f pos) (tProp (cl c) (SpF ⟨K, cl⟩ mf) [] E0 to) (mPrp mf c mo) := by
  obtain ⟨kq, room, gd, calm, pass⟩ := C
  subst kq
  obtain ⟨p, g, fd, ps, F, hp, bn⟩ := h.ex
  refine ⟨⟨fun pins s σ H Q I h' => attr_of hab (thn (ho.1.run pins s σ H _ I h') fun u s1 ⟨x, H1, I1, rx, a, dx, fs, ex, ea, q⟩ => ?_)⟩, md_prp ho.2⟩
  subst ex
  obtain rfl : u = Value.ref a := rx
  exact getprop_g I1 ea h.cls hp F (room.mono hk) gd bn .nil q
end
end Fr
namespace Fr
open PySem L2
/-! ### enumerate(a tuple) -/
theorem meets_enum1 {v : Value} {o : Obj} {W : Heap → Prop} (B : PySem.Begins v o W) :
    Meets (Builtin.«enumerate.__new__» ⟨[.type "enumerate", v], []⟩) (fun _ R s => W s.heap ∧
      R (.ok (.ret (.ref (s.heap.push o).objs.size))) { s with heap := (s.heap.push o).push { cls := .type "enumerate", data := .fields #[.none, .bool false, .ref s.heap.objs.size, rawInt 0, .none, .none] } }) :=
  .of_wp fun prog w A R s hh => by
    obtain ⟨hp, g, d, tk, os⟩ := s
    obtain ⟨w1, fin⟩ := hh
    have hsub := PySem.sub_enumerate
    have beg : ∀ {A' : Around} {E : Value → Shared → Prop} {Q : Value → Shared → Prop}, Q (.ref hp.objs.size) ⟨hp.push o, g, d, tk, os⟩ → wpAny (model prog w) A' (pyIter v) Q E ⟨hp, g, d, tk, os⟩ :=
      fun q => B.iter prog w _ _ ⟨hp, g, d, tk, os⟩ _ w1 q
    wp_walk using beg
    refine wpAny_stack_any fun st => wpAny_pure ?_
    split
    · rename_i c _ _ _ _ _
      cases (c == Value.type "enumerate") <;> (wp_walk using beg; exact ⟨_, rfl, fin⟩)
    · wp_walk using beg
      exact ⟨_, rfl, fin⟩
section
variable {prog : Program} {w : World} {A : Around} {E : Value → Shared → Prop} {s : Shared}
theorem call_enumT {t : Addr} {items : Array Value} {Q : Value → Shared → Prop} (ht : s.heap.IsTuple t items)
    (h : ∀ h', IsEnum h' (s.heap.objs.size + 1) s.heap.objs.size 0 .none → h'.IsTupleIter s.heap.objs.size t 0 → (∀ b o, s.heap.get? b = some o → h'.get? b = some o) → Q (.ref (s.heap.objs.size + 1)) { s with heap := h' }) :
    wpAny (model prog w) A (call (.type "enumerate") [.ref t]) Q E s := by
  refine callType_new F.called_enumerate (by decide) (F.typeCall_enumerate_1 _) (F.newCall_enumerate_1 _) (fun obj => F.args_object_init_2 obj _) F.entry_enumerate_new
    (meets_enum1 (PySem.begins_tuple t items)) ⟨ht, ?_⟩
  generalize ho : ({ cls := .type "tuple_iterator", data := .fields #[.ref t, .int 0 0] } : Obj) = o
  have sz : (s.heap.push o).objs.size = s.heap.objs.size + 1 := Heap.size_push ..
  have hf : o.isFreed = false := by rw [← ho]; rfl
  have e1 : IsEnum ((s.heap.push o).push { cls := .type "enumerate", data := .fields #[.none, .bool false, .ref s.heap.objs.size, rawInt 0, .none, .none] }) (s.heap.objs.size + 1) s.heap.objs.size 0 .none := by
    have := Heap.get?_push_size (s.heap.push o) (o := { cls := .type "enumerate", data := .fields #[.none, .bool false, .ref s.heap.objs.size, rawInt 0, .none, .none] }) rfl
    rw [sz] at this; exact this
  show _ ∧ _
  rw [sz]
  refine ⟨⟨_, e1, rfl⟩, h _ e1 ⟨o, Heap.get?_push_of_some _ (Heap.get?_push_size _ hf), by rw [← ho], by rw [← ho]; rfl⟩ fun b u q => Heap.get?_push_of_some _ (Heap.get?_push_of_some _ q)⟩
end
def IteT (K : PySem.W.Frag) (a : Addr) : It :=
  ⟨fun i H => ∃ (xs : List V) (x : V), SqT K H a xs ∧ xs[i]? = some x, fun i H v H' => ∃ T x, v = .ref T ∧ H T = none ∧ H' = upd H T (.tup [.int (i : Nat), x]) ∧ ∀ xs, SqT K H a xs → xs[i]? = some x, fun i H => ∃ xs : List V, SqT K H a xs ∧ xs.length ≤ i⟩
theorem ti_ne {h : Heap} {it t : Addr} {i : Nat} {items : Array Value} (h1 : h.IsTupleIter it t i) (h2 : h.IsTuple t items) : t ≠ it := by
  rintro rfl
  obtain ⟨o, ho, hc, _⟩ := h1
  obtain ⟨o2, ho2, hc2, _⟩ := h2
  rw [ho] at ho2
  injection ho2 with ho2
  subst ho2
  rw [hc] at hc2
  exact absurd hc2 (by decide)
theorem turn_enumT {P : Program} {w : World} {K : PySem.W.Frag} {elts : List Expr} {kk : Nat} {tpos : Pos} (a e it : Addr) :
    Turn P w K (.Tuple elts kk tpos) (IteT K a) [e, it] e (fun i h => (∃ old, IsEnum h e it ((i : Nat) : Int) old) ∧ h.IsTupleIter it a i ∧ e ≠ it ∧ e ≠ a) where
  mem := List.mem_cons_self
  obj := fun i h tn b hb => by
    obtain ⟨⟨old, he⟩, ⟨o, ho, hc, hd⟩, _⟩ := tn
    rcases List.mem_cons.mp hb with z | z
    · subst z; exact ⟨_, he, fun v q => nomatch q⟩
    · rw [List.mem_singleton.mp z]; exact ⟨o, ho, fun v q => by rw [hd] at q; cases q⟩
  keep := fun i h h' tn k => let ⟨⟨old, he⟩, hi, hne, hna⟩ := tn; ⟨⟨old, k e (by simp) _ he⟩, hi.at fun o q => k it (by simp) o q, hne, hna⟩
  item := by
    intro X hP hw hK hc i pins s σ H E I hf tn hg
    subst hP hw hK
    obtain ⟨⟨old, he⟩, hit, hne, hna⟩ := tn
    obtain ⟨xs, x, hq, hx⟩ := hg
    obtain ⟨its, rv, p, hz⟩ := I.tuple hq
    obtain ⟨u, hu, ru⟩ := rv.get hx
    have p' : s.heap.IsTuple a its.toArray := p
    have hlt : i < its.toArray.size := by
      rw [List.size_toArray]; exact (List.getElem?_eq_some_iff.mp hu).1
    have lte : e < s.heap.objs.size := Heap.lt_size he
    have lti : it < s.heap.objs.size := by obtain ⟨_, q, _⟩ := hit; exact Heap.lt_size q
    have D := PySem.Draws.tuple (prog := X.prog) (w := X.w) (A := X.A.in1.in1) (I.ok.hd hc) it a (ti_ne hit p') its.toArray
    refine PySem.wpAny_pyNext_enum_itemC (A := X.A) D.of_in1 he ⟨hit, p'⟩ hlt hne (by simp [hne, hna]) fun y h' tk hy ho hst hT hsz hk => ?_
    have hyu : y = u := by
      have : its.toArray[i]? = some u := by simpa using hu
      rw [this] at hy; exact (Option.some.inj hy).symm
    subst hyu
    refine ⟨_, rfl, wpAny_letOwnedTupleGo_enum (s := { s with heap := h', toks := tk + 1 }) ho fun h2 he2 sb => ?_⟩
    have hT2 : h2.get? s.heap.objs.size = some { cls := .type "tuple", data := .seq #[.int i tk, y] } := (sb.2 _ (Nat.ne_of_gt lte)).trans hT
    have new : ObjOk X.prog X.w (upd H s.heap.objs.size (.tup [.int (i : Nat), x])) h2 s.heap.objs.size (.tup [.int (i : Nat), x]) :=
      ⟨by show 2 ≤ sizeLine; decide, [.int i tk, y], .cons ⟨_, rfl⟩ (.cons ru .nil), ⟨_, hT2, rfl, _, rfl⟩⟩
    have I1 : Inv X pins σ (upd H s.heap.objs.size (.tup [.int (i : Nat), x])) { s with heap := h2, toks := tk + 1 } :=
      I.turnedNew (ch := [e, it]) (fun b ob hb q => by
        have z1 : b ≠ e := fun z => hb (by simp [z])
        have z2 : b ≠ it := fun z => hb (by simp [z])
        exact (sb.2 b z1).trans (hk b ob z1 z2 q)) hf (Nat.le_refl _) new
    refine ⟨.ref s.heap.objs.size, _, I1, rfl, ⟨_, x, rfl, I.hok.fresh (Nat.le_refl _), rfl, fun ys hy => by rw [I.tuple_inj hy hq]; exact hx⟩, ⟨⟨y, ?_⟩, hst.1.at fun o q => (sb.2 it (Ne.symm hne)).trans q, hne, hna⟩, fun b hb => ?_⟩
    · rw [show ((i + 1 : Nat) : Int) = (i : Int) + 1 by omega]; exact he2
    · have lt : b < s.heap.objs.size := by
        rcases List.mem_cons.mp hb with z | z
        · rw [z]; exact lte
        · rw [List.mem_singleton.mp z]; exact lti
      rw [upd_ne (Nat.ne_of_lt lt)]
      exact (hf b hb).1
  done := by
    intro X hP hw hK hc i pins s σ H E I hf tn hg
    subst hP hw hK
    obtain ⟨⟨old, he⟩, hit, hne, hna⟩ := tn
    obtain ⟨xs, hq, hx⟩ := hg
    obtain ⟨its, rv, p, hz⟩ := I.tuple hq
    obtain ⟨f0, f1, f2, f3, f4, f5⟩ := hf it (by simp)
    have hl := rv.length
    have p' : s.heap.IsTuple a its.toArray := p
    have hn : its.toArray[i]? = none := by
      rw [List.getElem?_toArray, List.getElem?_eq_none_iff]; omega
    have D : PySem.Draws X.prog X.w X.A.in1.in1 it [it, a] i (fun _ _ => False) (fun j h => j = i ∧ h.IsTupleIter it a i ∧ h.IsTuple a its.toArray) := {
      live := fun _ _ st => let ⟨o, ho, _⟩ := st.2.1; ⟨o, ho⟩
      frame := fun _ _ _ st hk => ⟨st.1, st.2.1.at fun o e => hk it (by simp) o e, st.2.2.at fun o e => hk a (by simp) o e⟩
      item := fun j s Q E hj st _ => absurd st.1 (Nat.ne_of_lt hj)
      done := fun s Q E st hE => PySem.wpAny_nextOf_tuple_end (I.ok.hd hc) st.2.1 st.2.2 hn hE }
    exact PySem.wpAny_pyNext_enum_endD (A := X.A) D.of_in1 he ⟨rfl, hit, p'⟩ fun h' eb => ⟨rfl, I.turned (t' := s.toks) (fun b o hb q => eb b o hb q) f0 f1 f3 f4 f5⟩
  self := fun A i s Q E tn h => let ⟨⟨_, he⟩, _⟩ := tn; wpAny_pyIter_enum he h
def iEnumT (K : PySem.W.Frag) (ta : TA) : TI := fun σ H R => ta σ H fun vs H1 => ∃ a xs, vs = [.ref a] ∧ SqT K H1 a xs ∧ R (IteT K a) H1
theorem pi_enumT {X : Cx} {e : Expr} {ta : TA} {p pos tpos : Pos} {elts : List Expr} {kk : Nat} (hg : Gl X "enumerate") (hm : X.mg "enumerate" = none) (ha : PA X [e] ta) (hs : starEach [e] X.env = [(false, eval e X.env)] := by rfl) :
    PI X (.Tuple elts kk tpos) (.Call (.Name "enumerate" p) [e] [] pos) (iEnumT X.K ta) := by
  refine ⟨fun pins s σ H R I h => ?_⟩
  refine PyProof.Rows.Call_ (ld_blt I hg hm PyProof.Rows.boot_enumerate (PyProof.Rows.callWith_type1 (thn (ha.run pos pins s σ H _ I h) fun us s1 ⟨vs, H1, I1, r1, q1⟩ => ?_) hs rfl))
  obtain ⟨a, xs, ex, hq, q⟩ := q1
  subst ex
  cases r1 with
  | cons r rr =>
    cases rr
    cases r
    obtain ⟨its, rv, p', hz⟩ := I1.tuple hq
    have lta : a < s1.heap.objs.size := by obtain ⟨_, ho, _⟩ := p'; exact Heap.lt_size ho
    refine call_enumT (items := its.toArray) p' fun h' he hit hk => wpAny_pyIter_enum he ?_
    have I2 : Inv X pins σ H1 { s1 with heap := h' } := I1.kept (t' := s1.toks) hk
    refine ⟨s1.heap.objs.size + 1, [s1.heap.objs.size + 1, s1.heap.objs.size], _, _, H1, rfl, I2, turn_enumT a (s1.heap.objs.size + 1) s1.heap.objs.size, ⟨⟨.none, he⟩, hit, Nat.succ_ne_self _, Nat.ne_of_gt (Nat.lt_succ_of_lt lta)⟩, fun b hb => ?_, q⟩
    have le : s1.heap.objs.size ≤ b := by
      rcases List.mem_cons.mp hb with z | z
      · rw [z]; exact Nat.le_succ _
      · rw [List.mem_singleton.mp z]; exact Nat.le_refl _
    exact I1.fpOk le (I1.hok.fresh le)
end Fr
namespace Fr
open PySem L2
section
variable {G : Gx} {X : Cx} {K : PySem.W.Frag} {cl : Str → Addr} {E : XK} {kk : Nat} {e o b : Expr} {es : List Expr} {pos p apos tpos : Pos} {te to tb : TE} {me mo mb : EV → Out (Rv × EV)} {t : TA} {m : EV → Out (List Rv × EV)} {F H F' H' : Hp} {ρ ρ' : EV} {σ : St} {np : Nat} {st : Stmt}
/-! ### enumerate -/
def enumD (ds : List D) : List D := ds.mapIdx fun i d => .tuple [.int (i : Nat), d]
theorem itR_enum {a : Addr} {xs : List V} {ds : List D} (h : F a = some (.lst xs)) (r : Rs G F ds xs) : ItR G F (Ite G.K a) (enumD ds) := fun F2 H2 s1 s2 => by
  have q : SqL G.K H2 a xs := .of (s2 _ _ (s1 _ _ h))
  refine ⟨fun i d hd => ?_, fun i hi => ⟨xs, q, by rw [r.length]; simpa [enumD] using hi⟩⟩
  unfold enumD at hd
  rw [List.getElem?_mapIdx] at hd
  cases hz : ds[i]? with
  | none => rw [hz] at hd; cases hd
  | some d0 =>
    rw [hz] at hd
    injection hd with hd
    subst hd
    obtain ⟨v, h1, h2⟩ := r.getD hz
    refine ⟨⟨xs, v, q, h1⟩, ?_⟩
    rintro x H3 ⟨T, y, rfl, hT, rfl, hy⟩
    have := hy xs q
    rw [h1] at this
    injection this with this
    subst this
    exact ⟨_, .put s2 hT, .tup (.inl ⟨rfl, upd_same⟩) (.cons (.int _) (.cons (h2.mono (s1.trans (Grow.put (F := F2) s2 hT).fr)) .nil))⟩
theorem itR_enumT {a : Addr} {xs : List V} {ds : List D} (h : SqT G.K F a xs) (r : Rs G F ds xs) : ItR G F (IteT G.K a) (enumD ds) := fun F2 H2 s1 s2 => by
  have q : SqT G.K H2 a xs := sqT_same s2 (sqT_same s1 h)
  refine ⟨fun i d hd => ?_, fun i hi => ⟨xs, q, by rw [r.length]; simpa [enumD] using hi⟩⟩
  unfold enumD at hd
  rw [List.getElem?_mapIdx] at hd
  cases hz : ds[i]? with
  | none => rw [hz] at hd; cases hd
  | some d0 =>
    rw [hz] at hd
    injection hd with hd
    subst hd
    obtain ⟨v, h1, h2⟩ := r.getD hz
    refine ⟨⟨xs, v, q, h1⟩, ?_⟩
    rintro x H3 ⟨T, y, rfl, hT, rfl, hy⟩
    have := hy xs q
    rw [h1] at this
    injection this with this
    subst this
    exact ⟨_, .put s2 hT, .tup (.inl ⟨rfl, upd_same⟩) (.cons (.int _) (.cons (h2.mono (s1.trans (Grow.put (F := F2) s2 hT).fr)) .nil))⟩
def iE (m : EV → Out (List Rv × EV)) : EV → Out (List D × EV) := fun ρ => (m ρ).bind fun x => match x.1 with
  | [.val (.list ds)] => .ok (enumD ds, x.2)
  | [.val (.tuple ds)] => .ok (enumD ds, x.2)
  | _ => .bad
def iEnumA (K : PySem.W.Frag) (ta : TA) : TI := fun σ H R => iEnum K ta σ H R ∨ iEnumT K ta σ H R
theorem si_enum {elts : List Expr} {k : Nat} (C : Cw X K E kk) (hm : X.mg "enumerate" = none) (h : SA X K cl E [e] t m) (hg : Gl X "enumerate" := by rfl) (hs : starEach [e] X.env = [(false, eval e X.env)] := by rfl) : SI X K cl E (.Tuple elts k tpos) (.Call (.Name "enumerate" p) [e] [] pos) (iEnumA K t) (iE m) := by
  obtain ⟨kq, _, _, _, _⟩ := C
  subst kq
  refine ⟨⟨fun pins s σ H R I q => q.elim ((pi_enum hg hm h.1 hs).run pins s σ H R I) ((pi_enumT hg hm h.1 hs).run pins s σ H R I)⟩, fun F H ρ σ Q en p => ?_⟩
  by_cases hT : ∃ ds ρ', m ρ = .ok ([.val (.tuple ds)], ρ')
  · refine .inr ?_
    obtain ⟨ds, ρ0, e0⟩ := hT
    refine h.2 F H ρ σ _ en ?_
    unfold iE at p
    rw [e0] at p ⊢
    intro F1 H1 vs s rr
    cases rr with
    | cons hr r1 r2 =>
      cases r2
      cases (show R _ F1 (.tuple ds) _ from r1) with
      | tup q r => exact ⟨_, _, rfl, sqT_same s.env.same q.sq, p F1 H1 _ s (itR_enumT q.sq r)⟩
  · refine .inl ?_
    unfold iE at p
    refine h.2 F H ρ σ _ en ?_
    revert p hT
    cases m ρ with
    | bad => exact fun p _ => p
    | ex c f ρ' => exact fun p _ => p
    | ok x =>
      intro p hT F1 H1 vs s rr
      obtain ⟨rs, ρ1⟩ := x
      dsimp only [Out.bind] at p
      split at p
      · rename_i ds
        cases rr with
        | cons hr r1 r2 =>
          cases r2
          cases (show R _ F1 (.list ds) _ from r1) with
          | lst q r => exact ⟨_, _, rfl, .of (s.env.same _ _ q), p F1 H1 _ s (itR_enum q r)⟩
      · rename_i ds
        exact (hT ⟨ds, ρ1, rfl⟩).elim
      · exact p.elim
/-! ### looking into dicts -/
def keysOf : List D → Option (List Key)
  | [] => some []
  | d :: ds => match keyD d, keysOf ds with
    | some k, some ks => some (k :: ks)
    | _, _ => none
def keyT : D → Option (List Key)
  | .tuple ds => keysOf ds
  | _ => none
def keyT1 : D → Option (List Key)
  | .tuple ds => if stD ds = true then none else keysOf ds
  | _ => none
theorem keyD_v {d : D} {v : V} {k : Key} (r : R G F d v) (h : keyD d = some k) : v = kV k ∧ d = kD k := by
  cases d <;> first | (simp [keyD] at h; done) | (simp only [keyD] at h; injection h with h; subst h; cases r; exact ⟨rfl, rfl⟩)
theorem keysOf_v : ∀ {ds : List D} {vs : List V} {ks : List Key}, Rs G F ds vs → keysOf ds = some ks → vs = ks.map kV ∧ ds = ks.map kD
  | _, _, _, .nil, h => by simp only [keysOf] at h; injection h with h; subst h; exact ⟨rfl, rfl⟩
  | _, _, _, .cons (d := d) (ds := ds) r t, h => by
    simp only [keysOf] at h
    cases e1 : keyD d with
    | none => rw [e1] at h; cases h
    | some k =>
      cases e2 : keysOf ds with
      | none => rw [e1, e2] at h; cases h
      | some ks =>
        rw [e1, e2] at h
        injection h with h
        subst h
        obtain ⟨h1, h2⟩ := keyD_v r e1
        obtain ⟨h3, h4⟩ := keysOf_v t e2
        exact ⟨by rw [h1, h3]; rfl, by rw [h2, h4]; rfl⟩
/-- the entry of a key -/
def lookK : List (D × D) → Key → Option D
  | [], _ => none
  | (k', d) :: r, k => if keyD k' = some k then some d else lookK r k
def lookT : List (D × D) → List Key → Option D
  | [], _ => none
  | (k', d) :: r, k => if keyT k' = some k then some d else lookT r k
theorem keyD_kD (k : Key) : keyD (kD k) = some k := by cases k <;> rfl
theorem keysOf_kD : ∀ ks : List Key, keysOf (ks.map kD) = some ks
  | [] => rfl
  | k :: ks => by simp only [List.map_cons, keysOf, keyD_kD, keysOf_kD ks]
/-- both there or both not -/
inductive RO (G : Gx) (F : Hp) : Option D → Option V → Prop
  | no : RO G F none none
  | yes {d : D} {v : V} : R G F d v → RO G F (some d) (some v)
theorem RK.val {es : List (D × D)} {kvs : List (Key × V)} (h : RK G F es kvs) (k : Key) : RO G F (lookK es k) (valV kvs k) := by
  match h with
  | .nil => exact .no
  | .cons (k := k') (v := v) r t =>
    simp only [lookK, keyD_kD]
    by_cases q : k' = k
    · subst q; rw [if_pos rfl, valV_pos rfl]; exact .yes r
    · rw [if_neg (fun z => q (Option.some.inj z)), valV_neg q]; exact RK.val t k
theorem RT.val {es : List (D × D)} {kvs : List (List Key × V)} (h : RT G F es kvs) (k : List Key) : RO G F (lookT es k) (valV kvs k) := by
  match h with
  | .nil => exact .no
  | .cons (k := k') (v := v) r t =>
    simp only [lookT, keyT, keysOf_kD]
    by_cases q : k' = k
    · subst q; rw [if_pos rfl, valV_pos rfl]; exact .yes r
    · rw [if_neg (fun z => q (Option.some.inj z)), valV_neg q]; exact RT.val t k
/-- what stands in a dict at a key: none = not a dict, or not such a key -/
def dgD : D → D → Option (Option D)
  | .dict ((.none, _) :: _), _ => none
  | .dict ((.list _, .bool false) :: es), y => (keyD y).map (lookK es)
  | .dict ((.list _, _) :: es), y => (keyT1 y).map (lookT es)
  | .dict ((.bool _, _) :: es), y => (keyT1 y).map (lookT es)
  | .dict es, y => (keyD y).map (lookK es)
  | _, _ => none
theorem dg_ok {d e : D} {x y : V} {o : Option D} (s : Same F H) (rx : Rd G F H d x) (ry : Rd G F H e y) (h : dgD d e = some o) : ∃ a ov, x = .ref a ∧ IsD H a ∧ DGet H a y ov ∧ RO G F o ov := by
  cases d <;> (try (simp [dgD] at h; done))
  rename_i es
  obtain ⟨a, rfl, q⟩ := rx
  have key : ∀ k, keyD e = some k → y = kV k := fun k hk => by
    cases e <;> first | (simp [keyD] at hk; done) | (simp only [keyD] at hk; injection hk with hk; subst hk; exact ry)
  rcases q with ⟨kvs, q, r⟩ | ⟨kvs, es', rfl, q, r⟩ | ⟨c, es', dx, fs, rfl, q, r⟩ | ⟨ns, rfl, q⟩ | ⟨ob, kvs, es', rfl, q, r⟩ | ⟨ob, kvs, es', rfl, q, r⟩
  · have hd : dgD (.dict es) e = (keyD e).map (lookK es) := by
      cases r with
      | nil => rfl
      | @cons k _ _ _ _ _ _ => cases k <;> rfl
    rw [hd] at h
    obtain ⟨k, hk, rfl⟩ := Option.map_eq_some_iff.mp h
    exact ⟨a, _, rfl, .inl ⟨kvs, .inl q⟩, key k hk ▸ DGet.k q, r.val k⟩
  · have h' : (keyT1 e).map (lookT es') = some o := h
    obtain ⟨k, hk, rfl⟩ := Option.map_eq_some_iff.mp h'
    cases e <;> (try (simp [keyT1] at hk; done))
    rename_i ds
    obtain ⟨b, xs, rfl, hb, rb⟩ := ry
    simp only [keyT1] at hk
    split at hk
    · cases hk
    rename_i hst
    have hb : F b = some (.tup xs) := hb.resolve_right (fun z => hst z.1) |>.2
    obtain ⟨e1, _⟩ := keysOf_v rb hk
    subst e1
    exact ⟨a, _, rfl, .inr ⟨kvs, .inl q⟩, DGet.t q (s _ _ hb), r.val k⟩
  · simp [dgD] at h
  · simp [dgD] at h
  · have h' : (keyD e).map (lookK es') = some o := h
    obtain ⟨k, hk, rfl⟩ := Option.map_eq_some_iff.mp h'
    have hy := key k hk
    subst hy
    exact ⟨a, _, rfl, .inl ⟨kvs, .inr ⟨ob, q⟩⟩, .inl ⟨kvs, k, .inr ⟨ob, q⟩, rfl, rfl⟩, r.val k⟩
  · have h' : (keyT1 e).map (lookT es') = some o := h
    obtain ⟨k, hk, rfl⟩ := Option.map_eq_some_iff.mp h'
    cases e <;> (try (simp [keyT1] at hk; done))
    rename_i ds
    obtain ⟨b, xs, rfl, hb, rb⟩ := ry
    simp only [keyT1] at hk
    split at hk
    · cases hk
    rename_i hst
    have hb : F b = some (.tup xs) := hb.resolve_right (fun z => hst z.1) |>.2
    obtain ⟨e1, _⟩ := keysOf_v rb hk
    subst e1
    exact ⟨a, _, rfl, .inr ⟨kvs, .inr ⟨ob, q⟩⟩, .inr ⟨kvs, k, b, .inr ⟨ob, q⟩, rfl, s _ _ hb, rfl⟩, r.val k⟩
def ixK (d e : D) : Option Sl := match dgD d e with
  | some (some v) => some (.val v)
  | _ => none
def rIxK : R2 := fun x y H Q => ∃ a v, x = .ref a ∧ IsD H a ∧ DGet H a y (some v) ∧ Q v H
theorem ix_dict (hu : X.A.units + 1 < cLine) : IxR X rIxK := by
  intro value slice pins s σ H x y v u Q I rx ry h hs
  obtain ⟨p, r, rfl, hd, g, q⟩ := h
  obtain rfl : v = Value.ref p := rx
  exact PyProof.Rows.tail_any (isD_at I hd).1 PySem.F.slot_dict_getitem.lookup (d_getItem hu I g ry fun w' s' I' rw' => ⟨r, H, I', rw', q⟩) hs
theorem v_ixK : Op2 G rIxK ixK := fun F H d e x y Q s rx ry h => by
  unfold ixK at h
  split at h
  · rename_i v hv
    obtain ⟨a, ov, rfl, hd, g, ro⟩ := dg_ok s rx ry hv
    cases ro with
    | yes r => exact ⟨a, _, rfl, hd, g, okS_val s h r⟩
  · exact h.elim
def ixA (d e : D) : Option Sl := (ixD d e).or (ixK d e)
theorem r_ixA (C : Cw X K E kk) : IxR X (fun x y H Q => rIx K x y H Q ∨ rIxK x y H Q) := (r_ix C).or (ix_dict (by have := C.u64; omega))
theorem v_ixA : Op2 G (fun x y H Q => rIx G.K x y H Q ∨ rIxK x y H Q) ixA := v_ix.or v_ixK
/-! in, not in -/
def rInK : R2 := fun x y H Q => ∃ a o, y = .ref a ∧ DGet H a x o ∧ Q (.bl o.isSome) H
theorem op_inK (hu : X.A.units + 1 < cLine) : OpR X (compareOp .In) rInK := by
  intro pins s σ H x y v u Q I rx ry h
  obtain ⟨a, o, rfl, g, q⟩ := h
  obtain rfl : u = Value.ref a := ry
  exact d_in hu I g rx fun s' I' => ⟨.bl o.isSome, H, I', rfl, q⟩
theorem RO.some_eq {o : Option D} {ov : Option V} (h : RO G F o ov) : ov.isSome = o.isSome := by cases h <;> rfl
theorem r_inA (C : Cw X K E kk) : OpR X (compareOp .In) (fun x y H Q => rInA K x y H Q ∨ rInK x y H Q) := (or_in C).or (op_inK (by have := C.u64; omega))
end
end Fr
namespace Fr
open PySem L2
section
variable {G : Gx} {X : Cx} {K : PySem.W.Frag} {cl : Str → Addr} {E : XK} {kk : Nat} {e o b : Expr} {es : List Expr} {pos p apos tpos : Pos} {te to tb : TE} {me mo mb : EV → Out (Rv × EV)} {t : TA} {m : EV → Out (List Rv × EV)} {F H F' H' : Hp} {ρ ρ' : EV} {σ : St} {np : Nat} {st : Stmt}
/-! ### stores into an owned dict -/
def putE (es : List (D × D)) (k : Key) (d : D) : List (D × D) := if (lookK es k).isSome = true then es.map (fun p => if keyD p.1 = some k then (p.1, d) else p) else es ++ [(kD k, d)]
def putT (es : List (D × D)) (k : List Key) (d : D) : List (D × D) := if (lookT es k).isSome = true then es.map (fun p => if keyT p.1 = some k then (p.1, d) else p) else es ++ [(.tuple (k.map kD), d)]
theorem RK.append {es es' : List (D × D)} {vs vs' : List (Key × V)} (h : RK G F es vs) (h' : RK G F es' vs') : RK G F (es ++ es') (vs ++ vs') := by
  match h with
  | .nil => exact h'
  | .cons r t => exact .cons r (RK.append t h')
theorem RT.append {es es' : List (D × D)} {vs vs' : List (List Key × V)} (h : RT G F es vs) (h' : RT G F es' vs') : RT G F (es ++ es') (vs ++ vs') := by
  match h with
  | .nil => exact h'
  | .cons r t => exact .cons r (RT.append t h')
theorem RK.over {es : List (D × D)} {kvs : List (Key × V)} {d : D} {v : V} (h : RK G F es kvs) (k : Key) (r : R G F d v) : RK G F (es.map fun p => if keyD p.1 = some k then (p.1, d) else p) (kvs.map fun kv => if kv.1 = k then (kv.1, v) else kv) := by
  match h with
  | .nil => exact .nil
  | .cons (k := k') r' t =>
    simp only [List.map_cons, keyD_kD]
    by_cases q : k' = k
    · rw [if_pos (by rw [q]), if_pos q]; exact .cons r (RK.over t k r)
    · rw [if_neg (fun z => q (Option.some.inj z)), if_neg q]; exact .cons r' (RK.over t k r)
theorem RT.over {es : List (D × D)} {kvs : List (List Key × V)} {d : D} {v : V} (h : RT G F es kvs) (k : List Key) (r : R G F d v) : RT G F (es.map fun p => if keyT p.1 = some k then (p.1, d) else p) (kvs.map fun kv => if kv.1 = k then (kv.1, v) else kv) := by
  match h with
  | .nil => exact .nil
  | .cons (k := k') r' t =>
    simp only [List.map_cons, keyT, keysOf_kD]
    by_cases q : k' = k
    · rw [if_pos (by rw [q]), if_pos q]; exact .cons r (RT.over t k r)
    · rw [if_neg (fun z => q (Option.some.inj z)), if_neg q]; exact .cons r' (RT.over t k r)
theorem RK.put {es : List (D × D)} {kvs : List (Key × V)} {d : D} {v : V} (h : RK G F es kvs) (k : Key) (r : R G F d v) : RK G F (putE es k d) (putK kvs k v) := by
  unfold putE putK
  rw [valV_any, ← (h.val k).some_eq]
  by_cases q : (valV kvs k).isSome = true
  · rw [if_pos q, if_pos q]; exact h.over k r
  · rw [if_neg q, if_neg q]; exact h.append (.cons r .nil)
theorem RT.put {es : List (D × D)} {kvs : List (List Key × V)} {d : D} {v : V} (h : RT G F es kvs) (k : List Key) (r : R G F d v) : RT G F (putT es k d) (putK kvs k v) := by
  unfold putT putK
  rw [valV_any, ← (h.val k).some_eq]
  by_cases q : (valV kvs k).isSome = true
  · rw [if_pos q, if_pos q]; exact h.over k r
  · rw [if_neg q, if_neg q]; exact h.append (.cons r .nil)
theorem RK.len {es : List (D × D)} {kvs : List (Key × V)} (h : RK G F es kvs) : kvs.length = es.length := by
  match h with
  | .nil => rfl
  | .cons _ t => simp [RK.len t]
theorem RT.len {es : List (D × D)} {kvs : List (List Key × V)} (h : RT G F es kvs) : kvs.length = es.length := by
  match h with
  | .nil => rfl
  | .cons _ t => simp [RT.len t]
def setK : D → D → D → Option D
  | .dict ((.none, _) :: _), _, _ => none
  | .dict ((.bool _, _) :: es), y, v => if es.length < 1000000 then (keyT1 y).map fun k => .dict ((.bool true, .none) :: putT es k v) else none
  | .dict es, y, v => if es.length < 1000000 then (keyD y).map fun k => .dict (putE es k v) else none
  | _, _, _ => none
def setA (d k v : D) : Option D := (setL d k v).or (setK d k v)
def rSetA : V → V → V → Hp → (Hp → Prop) → Prop := fun x y v H Q => rSetL x y v H Q ∨ ∃ a H', x = .ref a ∧ DPut H a y v H' ∧ Q H'
theorem set_A (hu : X.A.units + 1 < cLine) : PSet X rSetA := by
  intro pins s σ H o i v ov iv u Q I ro ri rv h
  rcases h with h | ⟨a, H', rfl, g, q⟩
  · exact set_list pins s σ H o i v ov iv u Q I ro ri rv h
  · obtain rfl : ov = Value.ref a := ro
    exact d_setItem hu I g ri rv fun s' I' => ⟨H', I', q⟩
theorem big_size {n : Nat} (h : n < 1000000) : n < sizeLine := by rw [sizeLine_eq]; omega
theorem set_ownA {d dk dv d' : D} {a : Addr} {k v : V} {Q : Hp → Prop} (s : Same F H) (ow : OwnR G F H d a) (rk : R G F dk k) (rv : R G F dv v) (q : setA d dk dv = some d') (h : ∀ o', OwnR G F (upd H a o') d' a → Q (upd H a o')) : rSetA (.ref a) k v H Q := by
  unfold setA at q
  cases z : setL d dk dv with
  | some y =>
    rw [z] at q
    exact .inl (set_own (i := 0) ow rk rv (z.trans q) h)
  | none =>
    rw [z] at q
    replace q : setK d dk dv = some d' := q
    refine .inr ?_
    clear z
    cases d <;> (try (simp [setK] at q; done))
    rename_i es
    rcases ow with ⟨kvs, e, r⟩ | ⟨kvs, es', rfl, e, r⟩ | ⟨_, _, _, _, rfl, _, _⟩
    · have hd : setK (.dict es) dk dv = if es.length < 1000000 then (keyD dk).map fun k => .dict (putE es k dv) else none := by
        cases r with
        | nil => rfl
        | @cons k _ _ _ _ _ _ => cases k <;> rfl
      rw [hd] at q
      by_cases c : es.length < 1000000
      · rw [if_pos c] at q
        obtain ⟨k', hk, rfl⟩ := Option.map_eq_some_iff.mp q
        obtain ⟨e1, _⟩ := keyD_v rk hk
        subst e1
        exact ⟨a, _, rfl, DPut.k e (by rw [r.len]; exact big_size c), h _ (.inl ⟨_, upd_same, r.put k' rv⟩)⟩
      · rw [if_neg c] at q; cases q
    · have q : (if es'.length < 1000000 then (keyT1 dk).map fun k => PyData.dict ((.bool true, .none) :: putT es' k dv) else none) = some d' := q
      by_cases c : es'.length < 1000000
      · rw [if_pos c] at q
        obtain ⟨k', hk, rfl⟩ := Option.map_eq_some_iff.mp q
        cases dk <;> (try (simp [keyT1] at hk; done))
        simp only [keyT1] at hk
        split at hk
        · cases hk
        rename_i hst
        cases rk with
        | tup hb rb =>
          have hb := (hb.resolve_right (fun z => hst z.1)).2
          obtain ⟨e1, _⟩ := keysOf_v rb hk
          subst e1
          exact ⟨a, _, rfl, DPut.t e (s _ _ hb) (by rw [r.len]; exact big_size c), h _ (.inr (.inl ⟨_, _, rfl, upd_same, r.put k' rv⟩))⟩
      · rw [if_neg c] at q; cases q
    · cases q
def sSubA (i : Nat) (k v : EV → Out (Rv × EV)) : EV → Out (Fl × EV) := fun ρ => (fzO (v ρ)).bind fun y => match y.1 with
  | .val dv => match ownAt y.2 i with
    | some _ => (fzO (k y.2)).bind fun z => match z.1 with
      | .val dk => match ownAt z.2 i with
        | some d => match setA d dk dv with
          | some d' => .ok (.next, z.2.set i (some (.own d')))
          | none => .bad
        | none => .bad
      | _ => .bad
    | none => .bad
  | _ => .bad
theorem ss_subA (i : Nat) {x : Str} {px ps : Pos} {k v : Expr} {tk tv : TE} {mk mv : EV → Out (Rv × EV)} (C : Cw X K E kk) (hk : SE X K cl E k tk mk) (hv : SE X K cl E v tv mv) (hN : X.N[i]? = some x := by rfl) (hvs : Vis X.env.scope x := by first | exact Or.inl rfl | exact Or.inr (Or.inl rfl) | exact Or.inr (Or.inr rfl)) (hd : (x == ("__debug__" : Str)) = false := by decide) (hcd : (x == ("__classdict__" : Str)) = false := by decide)
    (ha : ∀ v, assign (.Subscript (.Name x px) k ps) X.env v = (do let ov ← holding [v] (eval (.Name x px) X.env); let iv ← holding [v, ov] (eval k X.env); standAt ps; holding [v, ov, iv] (setItem ov iv v); release [v, ov, iv] []) := by intro _; rfl)
    (hs : swapsWithSole [.Subscript (.Name x px) k ps] v pos.line X.env = pure false := by rfl) (hw : swappedStores [.Subscript (.Name x px) k ps] v X.env = pure none := by rfl)
    (h1 : (assignEach [.Subscript (.Name x px) k ps] X.env).map (·.2) = [assign (.Subscript (.Name x px) k ps) X.env] := by rfl) :
    SS X K cl E np (.Assign [.Subscript (.Name x px) k ps] v pos) (tAsg tv (gSub (tVar i) tk rSetA)) (sSubA i mk mv) :=
  ⟨ps_asg hv.1 (pg_sub (pe_var hN hvs hd hcd) hk.1 (set_A (by have := C.u64; omega)) ha) hs hw h1, fun A F H ρ σ Dn hn st p => by
    unfold sSubA at p
    refine hv.2.fz.thenS st p fun F1 H1 ρ1 r w s1 t1 rr p1 => ?_
    cases r with
    | own d => exact p1.elim
    | ref d => exact p1.elim
    | val dv =>
    dsimp only at p1
    cases e2 : ownAt ρ1 i with
    | none => rw [e2] at p1; exact p1.elim
    | some d1 =>
    rw [e2] at p1
    obtain ⟨a, k1, k2, k3⟩ := s1.env.own i d1 (ownAt_some e2)
    refine ⟨.ref a, k1, ?_⟩
    refine hk.2.fz.thenS s1 p1 fun F2 H2 ρ2 r2 w2 s2 t2 rr2 p2 => ?_
    cases r2 with
    | own d => exact p2.elim
    | ref d => exact p2.elim
    | val dk =>
    dsimp only at p2
    cases e4 : ownAt ρ2 i with
    | none => rw [e4] at p2; exact p2.elim
    | some d =>
    rw [e4] at p2
    dsimp only at p2
    obtain ⟨a', z1, z2, z3⟩ := s2.env.own i d (ownAt_some e4)
    rw [k1] at z1
    injection z1 with z1; injection z1 with z1; injection z1 with z1
    subst z1
    cases q : setA d dk dv with
    | none => rw [q] at p2; exact p2.elim
    | some d' =>
      rw [q] at p2
      exact set_ownA s2.env.same z3 rr2 (R.mono t2.fr rr) q fun o' w1 => p2 F2 _ σ (s2.stp (Stp.mut s2.env (ownAt_some e4) k1 w1))⟩
/-! ### {} -/
end
end Fr
namespace Fr
open PySem L2
section
variable {G : Gx} {X : Cx} {K : PySem.W.Frag} {cl : Str → Addr} {E : XK} {kk : Nat} {e o b : Expr} {es : List Expr} {pos p apos cpos tpos : Pos} {te to tb : TE} {me mo mb : EV → Out (Rv × EV)} {t : TA} {m : EV → Out (List Rv × EV)} {F H F' H' : Hp} {ρ ρ' : EV} {σ : St} {np : Nat} {st : Stmt}
/-! ### d.get(k) -/
def isDc : D → Bool
  | .dict ((.none, _) :: _) => false
  | .dict _ => true
  | _ => false
/-! ### isinstance(e, (T, U)) -/
theorem kit_any (T U : Ty) (d : D) : PySem.W.kitAny K (.type (tagD d)) [.type T.nm, .type U.nm] = some (isiB T d || isiB U d) := by
  have h1 := kit_ty (K := K) (kit_all T d)
  have h2 := kit_ty (K := K) (kit_all U d)
  simp only [PySem.W.kitAny, h1, h2]
  cases isiB T d <;> cases isiB U d <;> rfl
def mIsi2 (T U : Ty) (a : EV → Out (Rv × EV)) : EV → Out (Rv × EV) := m1 (fun d => if isObj d = true then none else some (.val (.bool (isiB T d || isiB U d)))) a
theorem se_isi2 (T U : Ty) {x y : Str} {q1 q2 q3 q4 : Pos} {kx : Nat} (C : Cw X K E kk) (h : SE X K cl E e te me) (hm : X.mg "isinstance" = none) (hx : X.mg x = none) (hy : X.mg y = none) (hv : bootBuiltins x = some (.type T.nm) := by decide +kernel) (hw : bootBuiltins y = some (.type U.nm) := by decide +kernel) (hb : bootBuiltins "isinstance" = some (.builtin "isinstance") := by decide +kernel)
    (hg : Gl X "isinstance" := by rfl) (hgx : Gl X x := by rfl) (hgy : Gl X y := by rfl) (hn : x ≠ "__name__" := by decide) (hn2 : y ≠ "__name__" := by decide) (hdx : (x == ("__debug__" : Str)) = false := by decide) (hdy : (y == ("__debug__" : Str)) = false := by decide)
    (h1 : starEach [e, .Tuple [.Name x q2, .Name y q3] kx q4] X.env = (false, eval e X.env) :: starEach [.Tuple [.Name x q2, .Name y q3] kx q4] X.env := by rfl) (h2 : starEach [.Tuple [.Name x q2, .Name y q3] kx q4] X.env = (false, eval (.Tuple [.Name x q2, .Name y q3] kx q4) X.env) :: starEach [] X.env := by rfl)
    (hpl : (backTo pos (starEach [.Tuple [.Name x q2, .Name y q3] kx q4] X.env)).any (·.1) = false := by rfl)
    (h3 : starEach [.Name x q2, .Name y q3] X.env = (false, eval (.Name x q2) X.env) :: starEach [.Name y q3] X.env := by rfl) (h4 : starEach [.Name y q3] X.env = (false, eval (.Name y q3) X.env) :: starEach [] X.env := by rfl) :
    SE X K cl E (.Call (.Name "isinstance" q1) [e, .Tuple [.Name x q2, .Name y q3] kx q4] [] pos) (tCB (rIsiT K) (tCons te (tCons (tTup (tCons (tC (.ty T.nm)) (tCons (tC (.ty U.nm)) tNil))) tNil))) (mIsi2 T U me) :=
  ⟨pe_callB (C.kq ▸ call_isiT) hg hm hb (pa_cons h.1 (pa_cons (pe_tup (pa_cons (pe_bltn hgx hx hv rfl hn hdx) (pa_cons (pe_bltn hgy hy hw rfl hn2 hdy) pa_nil h4) h3)) pa_nil h2) h1) (by decide) (by decide) h1 hpl, fun F H ρ σ Q en pp => by
    unfold mIsi2 m1 at pp
    refine h.2.then en pp fun F1 H1 ρ1 r v s hr rr p1 => ?_
    revert p1
    dsimp only
    cases q : rdv ρ1 r with
    | none => exact False.elim
    | some d =>
      dsimp only
      intro p1
      by_cases ho : isObj d = true
      · rw [if_pos ho] at p1; exact p1.elim
      · rw [if_neg ho] at p1
        have ho : isObj d = false := by simpa using ho
        refine ⟨by show 2 ≤ sizeLine; rw [sizeLine_eq]; decide, fun a n => ?_⟩
        have g : Grow F1 H1 F1 (upd H1 a (.tup [.ty T.nm, .ty U.nm])) := .beside s.env.same n
        have s2 := g.stp s.env
        exact ⟨v, a, _, _, _, _, rfl, upd_same, .cons (.ty _) (.cons (.ty _) .nil), ((rr.step s2 hr).rd s2.env q).ty s2.env.same ho, kit_any T U d, (p1.step (s.trans s2) en) F1 _ _ (.refl s2.env) (.bl _)⟩⟩
end
end Fr
namespace Fr
open PySem L2
/-! ### a new object -/
section
variable {X : Cx} {k : Nat} {f C : Addr} {fd : FuncData} {ps : List Str} {sp : Sp} {dvs : List V} {ds : List Value} {E : XK} {x : Str} {p pos : Pos} {e : Expr} {es : List Expr} {t : TA}
theorem make_g {pins : List (Addr × Obj)} {σ : St} {H : Hp} {s : Shared} {Q : VK} {us : List Value} {vs : List V} (M : Mk X.K C f) (F : FnG X.prog X.w X.K X.mg X.base k f fd ps sp) (hr : Room (k + 1) X.A) (hgd : X.A.guards = some []) (hb : Binds X.K fd ps ds) (hd : Vals dvs ds)
    (hx : Passes (L2.CX X.prog X.w) X E) (I : Inv X pins σ H s) (r : Vals vs us)
    (h : ∀ x dx, H x = none → H dx = none → dx ≠ x → sp (.ref x :: (vs ++ dvs)) (upd (upd H dx (.own x)) x (.ins C dx [])) (fun v H2 => v = .non ∧ Q (.ref x) H2) E) :
    wpAny (model X.prog X.w) X.A (call (.ref C) us) (EP X pins σ Q) X.xe s := by
  have hq := h (s.heap.objs.size + 1) s.heap.objs.size (I.hok.fresh (Nat.le_succ _)) (I.hok.fresh (Nat.le_refl _)) (Nat.ne_of_lt (Nat.lt_succ_self _))
  have I2 := Inv.made (C := C) I
  have r2 : Vals (V.ref (s.heap.objs.size + 1) :: (vs ++ dvs)) (Value.ref (s.heap.objs.size + 1) :: (us ++ ds)) := .cons rfl (r.append hd)
  have hl : (Value.ref (s.heap.objs.size + 1) :: us ++ ds).length = ps.length := by
    have e := r2.length
    rw [F.len _ _ _ _ hq] at e
    exact e.symm
  refine wpAny_call (make_map (f := f) I.kIn M.makes M.init (beq_iff_eq.mp M.fn) (codeAny_mono (F.run _ X.stack _ _ ⟨Value.ref (s.heap.objs.size + 1) :: us, []⟩ (Value.ref (s.heap.objs.size + 1) :: (us ++ ds)) _ _ E (hr.make C us []) hgd
    (I2.env0.make C us []) (hb _ (Value.ref (s.heap.objs.size + 1) :: us) I2.kIn hl) r2 hq) fun r s' hq' => ?_))
  cases r with
  | error e => exact hx pins σ _ _ e s' I2 hq'
  | ok fl =>
    cases fl with
    | ret u =>
      obtain ⟨v, H', I3, rv, ev, q3⟩ := I2.after hq'
      subst ev
      exact ⟨rv, ⟨V.ref (s.heap.objs.size + 1), H', I3, rfl, q3⟩⟩
    | next => exact False.elim hq'
    | brk => exact False.elim hq'
    | cont => exact False.elim hq'
theorem peg_make (M : Mk X.K C f) (F : FnG X.prog X.w X.K X.mg X.base k f fd ps sp) (hr : Room (k + 1) X.A) (hgd : X.A.guards = some []) (hg : Gl X x) (hm : X.mg x = some (.ref C)) (hb : Binds X.K fd ps ds) (hd : Vals dvs ds) (hx : Passes (L2.CX X.prog X.w) X E)
    (ha : PA X (e :: es) t) (hdb : (x == ("__debug__" : Str)) = false := by decide) (he : starEach (e :: es) X.env = (false, eval e X.env) :: starEach es X.env := by rfl) (hpl : (backTo pos (starEach es X.env)).any (·.1) = false := by rfl) :
    PE X (.Call (.Name x p) (e :: es) [] pos) (tMake C sp dvs E t) :=
  ⟨fun pins s σ H Q I h => wpAny_Call_Name_kw (ld_glob I hg hm (PySem.W.callWith_K (h₀ := X.base) I.ok.mod.kin M.kp (thn (ha.run pos pins s σ H _ I h) fun us s1 ⟨vs, H1, I1, r, q⟩ => ⟨I1.kIn, make_g M F hr hgd hb hd hx I1 r q⟩) he hpl) hdb)⟩
end
end Fr
namespace Fr
open PySem L2
/-! ### self.f = e, in an own object -/
section
variable {G : Gx} {E : XK} {X : Cx} {K : PySem.W.Frag} {cl : Str → Addr} {A : An} {np : Nat} {F H F' H' : Hp} {ρ ρ' : EV} {σ σ' : St} {pos pos' p : Pos} {kk : Nat}
theorem RF.append {es es' : List (D × D)} {vs vs' : List (Str × V)} (h : RF G F es vs) (h' : RF G F es' vs') : RF G F (es ++ es') (vs ++ vs') := by
  induction es generalizing vs with
  | nil => cases h; exact h'
  | cons e es ih => cases h with
    | cons q t => exact .cons q (ih t)
theorem RF.len {es : List (D × D)} {vs : List (Str × V)} (h : RF G F es vs) : vs.length = es.length := by
  induction es generalizing vs with
  | nil => cases h; rfl
  | cons e es ih => cases h with
    | cons q t => simp [ih t]
theorem putF_new {f : Str} {v : V} : ∀ {fs : List (Str × V)}, fs.lookup f = none → putF f v fs = fs ++ [(f, v)]
  | [], _ => rfl
  | (g, x) :: r, h => by
    have hn : ¬ g = f := fun z => by subst z; simp at h
    have h2 : r.lookup f = none := by
      rw [List.lookup_cons] at h
      rw [show (f == g) = false from beq_eq_false_iff_ne.mpr (fun z => hn z.symm)] at h
      exact h
    simp only [putF, if_neg hn, putF_new h2, List.cons_append]
def putO (c f : Str) (dv : D) : D → Option D
  | .dict ((.none, .str c') :: es) => if c' = c ∧ es.length < 900 ∧ lookF es f = none then some (.dict ((.none, .str c) :: (es ++ [(.str f, dv)]))) else none
  | _ => none
def sFldO (i : Nat) (c f : Str) (v : EV → Out (Rv × EV)) : EV → Out (Fl × EV) := fun ρ => (fzO (v ρ)).bind fun y => match y.1 with
  | .val dv => match ownAt y.2 i with
    | some d => match putO c f dv d with
      | some d' => .ok (.next, y.2.set i (some (.own d')))
      | none => .bad
    | none => .bad
  | _ => .bad
theorem putO_own {c f : Str} {dv d d' : D} {a : Addr} {v : V} (h : OwnR G F H d a) (r : R G F dv v) (q : putO c f dv d = some d') : ∃ dx fs, H a = some (.ins (G.cl c) dx fs) ∧ fs.length < 1000 ∧ OwnR G F (upd H a (.ins (G.cl c) dx (putF f v fs))) d' a := by
  unfold putO at q
  split at q
  · rename_i c' es
    split at q
    · rename_i hq
      obtain ⟨rfl, hl, hn⟩ := hq
      injection q with q
      subst q
      simp only [OwnR] at h
      rcases h with ⟨kvs, e, z⟩ | ⟨kvs, es', z, _⟩ | ⟨c2, es', dx, fs, z, e, rf⟩
      · have : (∀ k : Key, kD k ≠ PyData.none) := fun k z => by cases k <;> cases z
        generalize hg : ((PyData.none, PyData.str c') :: es : List (D × D)) = l at z
        cases z with
        | nil => cases hg
        | cons => injection hg with hg _; injection hg with hg _; exact (this _ hg.symm).elim
      · injection z with z _; injection z with z _; cases z
      · injection z with z1 z2
        injection z1 with _ z1
        injection z1 with z1
        subst z1; subst z2
        refine ⟨dx, fs, e, by rw [rf.len]; omega, ?_⟩
        simp only [OwnR]
        refine .inr (.inr ⟨c', _, dx, _, rfl, upd_same, ?_⟩)
        rw [putF_new ((rf.look f).2 hn)]
        exact rf.append (.cons r .nil)
    · cases q
  · cases q
theorem ss_fldO (i : Nat) {c f x : Str} {px : Pos} {v : Expr} {tv : TE} {mv : EV → Out (Rv × EV)} (C : Cw X K E kk) (hc : Cls K (cl c)) (hno : NoAttr K (cl c) f) (hv : SE X K cl E v tv mv) (hN : X.N[i]? = some x := by rfl) (hvs : Vis X.env.scope x := by first | exact Or.inl rfl | exact Or.inr (Or.inl rfl) | exact Or.inr (Or.inr rfl)) (hd : (x == ("__debug__" : Str)) = false := by decide) (hcd : (x == ("__classdict__" : Str)) = false := by decide)
    (hs : swapsWith v (some (.Attribute (.Name x px) f pos')) pos.line X.env = pure false := by rfl) :
    SS X K cl E np (.Assign [.Attribute (.Name x px) f pos'] v pos) (sFld K (tVar i) tv f) (sFldO i c f mv) := by
  obtain ⟨kq, _, _, _, _⟩ := C
  subst kq
  refine ⟨ps_fld (pe_var hN hvs hd hcd) hv.1 hs, fun A F H ρ σ Dn hn st p => ?_⟩
  unfold sFldO at p
  refine hv.2.fz.thenS st p fun F1 H1 ρ1 r w s1 t1 rr p1 => ?_
  cases r with
  | own d => exact p1.elim
  | ref d => exact p1.elim
  | val dv =>
  dsimp only at p1
  cases e2 : ownAt ρ1 i with
  | none => rw [e2] at p1; exact p1.elim
  | some d1 =>
  rw [e2] at p1
  dsimp only at p1
  obtain ⟨a, k1, k2, k3⟩ := s1.env.own i d1 (ownAt_some e2)
  cases q : putO c f dv d1 with
  | none => rw [q] at p1; exact p1.elim
  | some d' =>
    rw [q] at p1
    obtain ⟨dx, fs, h1, h2, h3⟩ := putO_own k3 rr q
    exact ⟨.ref a, k1, a, _, dx, fs, rfl, h1, hc, hno, h2, p1 F1 _ σ (s1.stp (Stp.mut s1.env (ownAt_some e2) k1 h3))⟩
end
/-! ### a new object of a class -/
section
variable {G : Gx} {E : XK} {X : Cx} {K : PySem.W.Frag} {cl : Str → Addr} {np : Nat} {F H F' H' : Hp} {ρ ρ' : EV} {σ σ' : St} {pos p : Pos} {kk : Nat} {x : Str} {e : Expr} {es : List Expr} {t : TA} {m : EV → Out (List Rv × EV)}
theorem EnvR.ext {d : D} {a : Addr} (en : EnvR G F H ρ σ) (f : F a = none) (o : OwnR G F H d a) (n : ∀ i, ¬ Ow ρ σ i a) : EnvR G F H (ρ ++ [some (.own d)]) (σ ++ [some (.ref a)]) := by
  have key : ∀ (i : Nat) (x : Sl), (ρ ++ [some (.own d)])[i]? = some (some x) → (i < ρ.length ∧ ρ[i]? = some (some x)) ∨ (i = ρ.length ∧ x = .own d) := by
    intro i x q
    by_cases h : i < ρ.length
    · rw [List.getElem?_append_left h] at q; exact .inl ⟨h, q⟩
    · rw [List.getElem?_append_right (by omega)] at q
      have : i - ρ.length = 0 := by
        have := (List.getElem?_eq_some_iff.mp q).1
        simp at this; omega
      rw [this] at q
      simp at q
      exact .inr ⟨by omega, q.symm⟩
  have sig : ∀ i, i < ρ.length → (σ ++ [some (V.ref a)])[i]? = σ[i]? := fun i h => List.getElem?_append_left (by rw [← en.len]; exact h)
  have sig2 : (σ ++ [some (V.ref a)])[ρ.length]? = some (some (V.ref a)) := by rw [en.len]; simp
  refine ⟨en.same, by simp [en.len], ?_, ?_, ?_⟩
  · intro i x q
    rcases key i _ q with ⟨h1, h2⟩ | ⟨h1, h2⟩
    · rw [sig i h1]; exact en.val i x h2
    · cases h2
  · intro i x q
    rcases key i _ q with ⟨h1, h2⟩ | ⟨h1, h2⟩
    · rw [sig i h1]; exact en.own i x h2
    · injection h2 with h2; subst h2; subst h1; exact ⟨a, sig2, f, o⟩
  · rintro i j b ⟨⟨x, q1⟩, q2⟩ ⟨⟨y, q3⟩, q4⟩
    rcases key i _ q1 with ⟨h1, h2⟩ | ⟨h1, h2⟩
    · rw [sig i h1] at q2
      rcases key j _ q3 with ⟨k1, k2⟩ | ⟨k1, k2⟩
      · rw [sig j k1] at q4; exact en.ne i j b ⟨⟨x, h2⟩, q2⟩ ⟨⟨y, k2⟩, q4⟩
      · subst k1; rw [sig2] at q4; injection q4 with q4; injection q4 with q4; injection q4 with q4; subst q4
        exact (n i ⟨⟨x, h2⟩, q2⟩).elim
    · subst h1; rw [sig2] at q2; injection q2 with q2; injection q2 with q2; injection q2 with q2; subst q2
      rcases key j _ q3 with ⟨k1, k2⟩ | ⟨k1, k2⟩
      · rw [sig j k1] at q4; exact (n j ⟨⟨y, k2⟩, q4⟩).elim
      · exact k1.symm
/-- the caller's slots behind a call with one more -/
theorem Stp.unext {d : D} {a : Addr} {H1 : Hp} (en : EnvR G F H ρ σ) (g : Grow F H F H1) (na : H a = Option.none) (s : Stp G F H1 (ρ ++ [some (.own d)]) F' H' ρ' (σ ++ [some (.ref a)])) : Stp G F H ρ F' H' (ρ'.take ρ.length) σ := by
  have len : ρ'.length = ρ.length + 1 := by have := s.env.len; simp [← en.len] at this; exact this
  have get : ∀ (i : Nat) (x : Option Sl), (ρ'.take ρ.length)[i]? = some x → i < ρ.length ∧ ρ'[i]? = some x := by
    intro i x q
    rw [List.getElem?_take] at q
    split at q
    · rename_i h; exact ⟨h, q⟩
    · cases q
  have sig : ∀ i, i < ρ.length → (σ ++ [some (V.ref a)])[i]? = σ[i]? := fun i h => List.getElem?_append_left (by rw [← en.len]; exact h)
  refine ⟨s.fr, ⟨s.env.same, by simp [len, ← en.len], ?_, ?_, ?_⟩, ?_, ?_, ?_⟩
  · intro i x q
    obtain ⟨h1, h2⟩ := get i _ q
    rw [← sig i h1]; exact s.env.val i x h2
  · intro i x q
    obtain ⟨h1, h2⟩ := get i _ q
    rw [← sig i h1]; exact s.env.own i x h2
  · rintro i j b ⟨⟨x, q1⟩, q2⟩ ⟨⟨y, q3⟩, q4⟩
    obtain ⟨h1, h2⟩ := get i _ q1
    obtain ⟨k1, k2⟩ := get j _ q3
    exact s.env.ne i j b ⟨⟨x, h2⟩, by rw [sig i h1]; exact q2⟩ ⟨⟨y, k2⟩, by rw [sig j k1]; exact q4⟩
  · intro b o q
    rcases s.new b o q with h | h
    · exact .inl h
    · exact .inr (h.back g.keep)
  · intro b o q w
    refine s.keep b o (g.keep b o q) ?_
    rintro i ⟨⟨x, q1⟩, q2⟩
    by_cases h : i < ρ.length
    · rw [List.getElem?_append_left h] at q1
      rw [sig i h] at q2
      exact w i ⟨⟨x, q1⟩, q2⟩
    · have h2 : i = σ.length := by
        have := (List.getElem?_eq_some_iff.mp q2).1
        simp at this
        rw [en.len] at h
        omega
      subst h2
      simp at q2
      subst q2
      rw [na] at q; cases q
  · intro i
    by_cases h : i < ρ.length
    · have := s.mode i
      rw [List.getElem?_append_left h] at this
      rw [List.getElem?_take, if_pos h]
      exact this
    · refine .inr ⟨?_, ?_⟩
      · intro x q
        rw [List.getElem?_eq_none (by omega)] at q; cases q
      · rw [List.getElem?_take, if_neg h, List.getElem?_eq_none (by omega)]
def newO (n : Nat) : Out (Rv × EV) → Out (Rv × EV)
  | .ok (.val .none, ρ') => match ρ'[n]? with
    | some (some (.own d)) => .ok (.own d, ρ'.take n)
    | _ => .bad
  | .ok _ => .bad
  | .ex c f ρ' => .ex c f (ρ'.take n)
  | .bad => .bad
def mNew (mf : Mf) (c : Str) (dds : List D) (as : EV → Out (List Rv × EV)) : EV → Out (Rv × EV) := fun ρ => (as ρ).bind fun y =>
  newO y.2.length (callF mf (y.2 ++ [some (.own (.dict [(.none, .str c)]))]) (.ref y.2.length :: (y.1 ++ dds.map Rv.val)))
theorem ResRs.ext {rs : List Rv} {vs : List V} {s : Option Sl} {v : Option V} {H1 : Hp} (en : EnvR G F H ρ σ) (h : ResRs G F H ρ σ rs vs) : ResRs G F H1 (ρ ++ [s]) (σ ++ [v]) rs vs := by
  induction h with
  | nil => exact .nil
  | @cons r v rs vs hr q t ih =>
    refine .cons hr ?_ ih
    cases r with
    | own d => exact (hr d rfl).elim
    | val d => exact q
    | ref i =>
      obtain ⟨k1, d, k2⟩ := q
      exact ⟨by rw [List.getElem?_append_left (List.getElem?_eq_some_iff.mp k1).1]; exact k1, d, by rw [List.getElem?_append_left (List.getElem?_eq_some_iff.mp k2).1]; exact k2⟩
theorem md_new {mf : Mf} {c : Str} {dds : List D} {dvs : List V} (hd : ∀ F, Rs G F dds dvs) (ha : MdA G E t m) : Md G E (tMake (G.cl c) (SpF G mf) dvs E t) (mNew mf c dds m) := fun F H ρ σ Q en p => by
  unfold mNew at p
  refine ha.then en p fun F1 H1 ρ1 rs vs s rr p1 => ?_
  intro x dx nx ndx ne
  have g1 : Grow F1 H1 F1 (upd H1 dx (.own x)) := .beside s.env.same ndx
  have nx1 : upd H1 dx (.own x) x = none := by rw [upd_ne (Ne.symm ne)]; exact nx
  have g2 : Grow F1 (upd H1 dx (.own x)) F1 (upd (upd H1 dx (.own x)) x (.ins (G.cl c) dx [])) := .beside g1.sub nx1
  have g := g1.trans g2
  have e1 := s.env.grow g
  have now : ∀ i, ¬ Ow ρ1 σ i x := fun i w => by obtain ⟨y, hy⟩ := s.env.there w; rw [nx] at hy; cases hy
  have e2 : EnvR G F1 (upd (upd H1 dx (.own x)) x (.ins (G.cl c) dx [])) (ρ1 ++ [some (.own (.dict [(.none, .str c)]))]) (σ ++ [some (.ref x)]) := by
    refine e1.ext (s.env.same.free nx) ?_ now
    simp only [OwnR]
    exact .inr (.inr ⟨c, [], dx, [], rfl, upd_same, .nil⟩)
  refine call_ok e2 (.cons (r := .ref ρ1.length) (by simp) ⟨by rw [s.env.len]; simp, _, by simp; rfl⟩ ((rr.more (hd F1)).ext s.env)) ?_
  revert p1
  dsimp only
  cases callF mf (ρ1 ++ [some (.own (.dict [(.none, .str c)]))]) (.ref ρ1.length :: (rs ++ dds.map Rv.val)) with
  | bad => exact id
  | ex c f ρ' =>
    intro p1 F' H' cls dd st xr
    exact p1 F' H' cls dd (Stp.unext s.env g nx st) xr
  | ok y =>
    obtain ⟨r, ρ'⟩ := y
    intro p1 F' H' v st rv
    cases r with
    | own d => exact p1.elim
    | ref i => exact p1.elim
    | val d =>
      cases d with
      | none =>
        have rv' : R G F' .none v := rv
        cases rv'
        refine ⟨rfl, ?_⟩
        simp only [newO] at p1
        split at p1
        · rename_i d q
          refine p1 F' H' (.ref x) (s.trans (Stp.unext s.env g nx st)) ?_
          obtain ⟨b, k1, k2, k3⟩ := st.env.own ρ1.length d q
          rw [s.env.len] at k1
          simp at k1
          subst k1
          exact ⟨x, rfl, k2, s.none en nx, k3⟩
        · exact p1.elim
      | _ => exact p1.elim
/-- a class whose objects are made by a def -/
structure Mkd (P : Program) (w : World) (K : PySem.W.Frag) (mg : Str → Option Value) (bs : Heap) (cl : Str → Addr) (c : Str) (k : Nat) (mf : Mf) (dds : List D) (dvs : List V) : Prop where
  ex : ∃ (f : Addr) (fd : FuncData) (ps : List Str) (ds : List Value), Mk K (cl c) f ∧ mg c = some (.ref (cl c)) ∧ FnG P w K mg bs k f fd ps (SpF ⟨K, cl⟩ mf) ∧ Binds K fd ps ds ∧ Vals dvs ds ∧ ∀ F, Rs ⟨K, cl⟩ F dds dvs
theorem se_new {k : Nat} {mf : Mf} {dds : List D} {dvs : List V} (C : Cw X K E kk) (h : Mkd X.prog X.w K X.mg X.base cl x k mf dds dvs) (ha : SA X K cl E (e :: es) t m) (hk : k + 1 ≤ kk := by decide) (hg : Gl X x := by rfl) (hdb : (x == ("__debug__" : Str)) = false := by decide)
    (he : starEach (e :: es) X.env = (false, eval e X.env) :: starEach es X.env := by rfl) (hpl : (backTo pos (starEach es X.env)).any (·.1) = false := by rfl) :
    SE X K cl E (.Call (.Name x p) (e :: es) [] pos) (tMake (cl x) (SpF ⟨K, cl⟩ mf) dvs E t) (mNew mf x dds m) := by
  obtain ⟨kq, room, gd, calm, pass⟩ := C
  subst kq
  obtain ⟨f, fd, ps, ds, M, hm, F, b, hd, hdd⟩ := h.ex
  exact ⟨peg_make M F (room.mono hk) gd hg hm b hd pass ha.1 hdb he hpl, md_new (G := ⟨X.K, cl⟩) hdd ha.2⟩
end
end Fr
namespace Fr
open PySem L2
/-! ### self.spots = {} and the loop that fills it -/
section
variable {G : Gx} {E : XK} {X : Cx} {K : PySem.W.Frag} {cl : Str → Addr} {A : An} {np : Nat} {F H F' H' : Hp} {ρ ρ' : EV} {σ σ' : St} {pos pos' p : Pos} {kk : Nat}
theorem EnvR.forget {i : Nat} {v : Option V} (e : EnvR G F H ρ σ) : EnvR G F H (ρ.set i none) (σ.set i v) := by
  have key : ∀ (j : Nat) (x : Sl), (ρ.set i none)[j]? = some (some x) → i ≠ j ∧ ρ[j]? = some (some x) := by
    intro j x y
    rw [get_set] at y
    by_cases z : i = j
    · rw [if_pos z] at y
      split at y
      · injection y with y; cases y
      · cases y
    · rw [if_neg z] at y; exact ⟨z, y⟩
  refine ⟨e.same, by simp [e.len], fun j x y => ?_, fun j x y => ?_, ?_⟩
  · obtain ⟨h1, h2⟩ := key j _ y; rw [get_set, if_neg h1]; exact e.val j x h2
  · obtain ⟨h1, h2⟩ := key j _ y; rw [get_set, if_neg h1]; exact e.own j x h2
  · rintro j k b ⟨⟨x, q1⟩, q2⟩ ⟨⟨y, q3⟩, q4⟩
    obtain ⟨h1, h2⟩ := key j _ q1
    obtain ⟨h3, h4⟩ := key k _ q3
    rw [get_set, if_neg h1] at q2
    rw [get_set, if_neg h3] at q4
    exact e.ne j k b ⟨⟨x, h2⟩, q2⟩ ⟨⟨y, h4⟩, q4⟩
theorem EnvR.forget' {i : Nat} (e : EnvR G F H ρ σ) : EnvR G F H (ρ.set i none) σ := by
  by_cases h : i < σ.length
  · have := e.forget (i := i) (v := σ[i])
    rwa [List.set_getElem_self] at this
  · have hr : ρ.set i none = ρ := List.set_eq_of_length_le (by rw [e.len]; omega)
    rw [hr]; exact e
theorem EnvR.other (e : EnvR G F H ρ σ) (hs : Same F H') (ho : ∀ i a, Ow ρ σ i a → H' a = H a) : EnvR G F H' ρ σ :=
  ⟨hs, e.len, e.val, fun i d q => by
    obtain ⟨a, k1, k2, k3⟩ := e.own i d q
    exact ⟨a, k1, k2, k3.at (ho i a ⟨⟨d, q⟩, k1⟩)⟩, e.ne⟩
/-- the tables' names -/
def tnames : List D → Option (List Str)
  | [] => some []
  | .tuple [.str n, _, _] :: ts => (tnames ts).map (n :: ·)
  | _ :: _ => none
def spotsD : List Str → Nat → List (D × D)
  | [], _ => []
  | n :: ns, i => (.str n, .int (i : Nat)) :: spotsD ns (i + 1)
def forg (is : List Nat) (ρ : EV) : EV := is.foldl (fun ρ i => ρ.set i none) ρ
theorem forg_len {is : List Nat} : ∀ {ρ : EV}, (forg is ρ).length = ρ.length := by
  unfold forg
  induction is with
  | nil => intro ρ; rfl
  | cons i is ih => intro ρ; rw [List.foldl_cons, ih]; simp
theorem forg_get {is : List Nat} {j : Nat} {x : Sl} : ∀ {ρ : EV}, (forg is ρ)[j]? = some (some x) ↔ j ∉ is ∧ ρ[j]? = some (some x) := by
  unfold forg
  induction is with
  | nil => intro ρ; simp
  | cons i is ih =>
    intro ρ
    rw [List.foldl_cons, ih, get_set, List.mem_cons]
    by_cases z : i = j
    · subst z; simp
    · rw [if_neg z]; simp; exact fun _ _ q => z q.symm
theorem EnvR.forg {is : List Nat} : ∀ {ρ : EV}, EnvR G F H ρ σ → EnvR G F H (Fr.forg is ρ) σ := by
  unfold Fr.forg
  induction is with
  | nil => intro ρ h; exact h
  | cons i is ih => intro ρ h; rw [List.foldl_cons]; exact ih h.forget'
theorem forg_set {is : List Nat} {i : Nat} {x : Option Sl} (h : i ∈ is) : ∀ {ρ : EV}, forg is (ρ.set i x) = forg is ρ := by
  unfold forg
  induction is with
  | nil => cases h
  | cons j is ih =>
    intro ρ
    rw [List.foldl_cons, List.foldl_cons]
    by_cases z : j = i
    · subst z; rw [List.set_set]
    · have hm : i ∈ is := by
        rcases List.mem_cons.mp h with q | q
        · exact (z q.symm).elim
        · exact q
      rw [List.set_comm _ _ (Ne.symm z), ih hm]
theorem Sets.forg {vs : List Nat} (h : Sets G F np vs ρ σ ρ' σ') : Fr.forg vs ρ' = Fr.forg vs ρ := by
  induction h with
  | refl => rfl
  | set _ ok hv r ih => rw [forg_set hv]; exact ih
theorem forg_forg {is : List Nat} : ∀ {ρ : EV}, forg is (forg is ρ) = forg is ρ := by
  intro ρ
  apply List.ext_getElem?
  intro j
  have h1 := @forg_get is j
  by_cases hj : j < ρ.length
  · have l1 : j < (forg is (forg is ρ)).length := by rw [forg_len, forg_len]; exact hj
    have l2 : j < (forg is ρ).length := by rw [forg_len]; exact hj
    rw [List.getElem?_eq_getElem l1, List.getElem?_eq_getElem l2]
    congr 1
    cases z : (forg is ρ)[j] with
    | none =>
      cases y : (forg is (forg is ρ))[j] with
      | none => rfl
      | some s =>
        have := (h1 (x := s) (ρ := forg is ρ)).mp (by rw [List.getElem?_eq_getElem l1, y])
        rw [List.getElem?_eq_getElem l2, z] at this
        cases this.2
    | some s =>
      have h2 := (h1 (x := s) (ρ := ρ)).mp (by rw [List.getElem?_eq_getElem l2, z])
      have h3 := (h1 (x := s) (ρ := forg is ρ)).mpr ⟨h2.1, by rw [List.getElem?_eq_getElem l2, z]⟩
      rw [List.getElem?_eq_getElem l1] at h3
      injection h3
  · rw [List.getElem?_eq_none (by rw [forg_len, forg_len]; omega), List.getElem?_eq_none (by rw [forg_len]; omega)]
theorem rk_spots : ∀ (ns : List Str) (i : Nat), RK G F (spotsD ns i) (ns.mapIdx fun k n => ((Sum.inr n : Key), V.int ((i + k : Nat) : Int)))
  | [], _ => .nil
  | n :: ns, i => by
    rw [List.mapIdx_cons]
    have := rk_spots ns (i + 1)
    refine RK.cons (k := .inr n) (.int _) ?_
    have e : (fun k n => ((Sum.inr n : Key), V.int ((i + 1 + k : Nat) : Int))) = (fun k n => ((Sum.inr n : Key), V.int ((i + (k + 1) : Nat) : Int))) := by
      funext k n; rw [Nat.add_assoc, Nat.add_comm 1 k]
    rw [e] at this
    exact this
abbrev kvsOf (ns : List Str) : List (Key × V) := ns.mapIdx fun k n => ((Sum.inr n : Key), V.int ((k : Nat) : Int))
theorem tnames_get : ∀ {ts : List D} {ns : List Str}, tnames ts = some ns → ts.length = ns.length ∧ ∀ (i : Nat) (d : D), ts[i]? = some d → ∃ n x y, d = .tuple [.str n, x, y] ∧ ns[i]? = some n
  | [], ns, h => by
    simp only [tnames] at h; injection h with h; subst h
    exact ⟨rfl, fun i d q => by simp at q⟩
  | t :: ts, ns, h => by
    unfold tnames at h
    split at h
    · rename_i heq; cases heq
    · rename_i n x y ts' heq
      injection heq with h1 h2; subst h1; subst h2
      cases z : tnames ts with
      | none => rw [z] at h; cases h
      | some ms =>
        rw [z] at h; simp only [Option.map_some] at h; injection h with h; subst h
        obtain ⟨k1, k2⟩ := tnames_get z
        refine ⟨by simp [k1], fun i d q => ?_⟩
        cases i with
        | zero => simp at q; subst q; exact ⟨n, x, y, rfl, rfl⟩
        | succ i => simpa using k2 i d (by simpa using q)
    · cases h
theorem val_none {ns : List Str} {n : Str} (h : n ∉ ns) : valV (kvsOf ns) (.inr n : Key) = none := by
  unfold valV
  rw [Option.map_eq_none_iff, List.find?_eq_none]
  intro x hx
  obtain ⟨i, hi, rfl⟩ := List.mem_mapIdx.mp hx
  simp only [decide_eq_true_eq]
  intro z
  injection z with z
  exact h (z ▸ List.getElem_mem hi)
theorem put_new {ns : List Str} {n : Str} (h : n ∉ ns) : putK (kvsOf ns) (.inr n : Key) (V.int (ns.length : Nat)) = kvsOf (ns ++ [n]) := by
  unfold putK
  rw [if_neg (by
    intro hx
    rw [List.any_eq_true] at hx
    obtain ⟨x, hx, q⟩ := hx
    obtain ⟨i, hi, rfl⟩ := List.mem_mapIdx.mp hx
    simp only [decide_eq_true_eq] at q
    injection q with q
    exact h (q ▸ List.getElem_mem hi))]
  unfold kvsOf
  rw [List.mapIdx_append]
  simp
/-- self.spots = {}; for at, (name, ..) in enumerate(tables): .. self.spots[name] = at -/
def seqOf : D → Option (List D)
  | .list ts => some ts
  | .tuple ts => some ts
  | _ => none
def mSpots (c : Str) (iS iT iA iN iC iK : Nat) : EV → Out (Fl × EV) := fun ρ => match ownAt ρ iS, ρ[iT]? with
  | some (.dict ((.none, .str c') :: es)), some (some (.val tt)) => match (seqOf tt).bind tnames with
    | some ns => if c' = c ∧ ns.Nodup ∧ ns.length < 900 ∧ es.length < 900 ∧ lookF es "spots" = none ∧ iT ∉ [iA, iN, iC, iK] ∧ iT ≠ iS ∧ iA < ρ.length ∧ iN < ρ.length then
        .ok (.next, (forg [iA, iN, iC, iK] ρ).set iS (some (.own (.dict ((.none, .str c) :: (es ++ [(.str "spots", .dict (spotsD ns 0))]))))))
      else .bad
    | none => .bad
  | _, _ => .bad
theorem ms_spots {c : Str} {iS iT iA iN iC iK : Nat} {wi : TI} {g : TG} {mg : Tgm} {tr : TS} {rIn : R2} (hc : Cls G.K (G.cl c)) (hno : NoAttr G.K (G.cl c) "spots") (hI : MdI G E wi (iE (aCons (mVar iT) aNil))) (hG : MdG G np [iA, iN, iC, iK] g mg)
    (hmg : mg = gT 2 (gsCons (gN np iA) (gsCons (gT 3 (gsCons (gN np iN) (gsCons (gN np iC) (gsCons (gN np iK) gsNil)))) gsNil)))
    (hs : iS ∉ [iA, iN, iC, iK]) (hnp : np ≤ iA ∧ np ≤ iN ∧ np ≤ iC ∧ np ≤ iK) (hdd : iA ≠ iN ∧ iA ≠ iC ∧ iA ≠ iK ∧ iN ≠ iC ∧ iN ≠ iK ∧ iC ≠ iK)
    (hIn : ∀ x y H Q, rInK x y H Q → rIn x y H Q) :
    Ms G E np (tSeq (sFld G.K (tVar iS) tDNewK "spots") (tFor wi g (tSeq (tIfS (tTest (tOp rIn (tVar iN) (tFld G.K (tVar iS) "spots"))) tr tNext) (sDPut (tFld G.K (tVar iS) "spots") (tVar iN) (tVar iA))))) (mSpots c iS iT iA iN iC iK) := fun A F H ρ σ Dn hn st p => by
  unfold mSpots at p
  cases e1 : ownAt ρ iS with
  | none => rw [e1] at p; exact p.elim
  | some d0 =>
  rw [e1] at p
  split at p
  rotate_left
  · exact p.elim
  rename_i o1 o2 c' es tt heq eT
  injection heq with heq
  subst heq
  cases e20 : (seqOf tt).bind tnames with
  | none => rw [e20] at p; exact p.elim
  | some ns =>
  rw [e20] at p
  dsimp only at p
  obtain ⟨ts, e21, e2⟩ := Option.bind_eq_some_iff.mp e20
  split at p
  rotate_left
  · exact p.elim
  rename_i hq
  obtain ⟨rfl, hnd, hnl, hel, hlo, hT, hTS, hAl, hNl⟩ := hq
  obtain ⟨x, k1, k2, k3⟩ := st.env.own iS _ (ownAt_some e1)
  simp only [OwnR] at k3
  have hk : ∃ dx fs, H x = some (.ins (G.cl c') dx fs) ∧ RF G F es fs := by
    rcases k3 with ⟨kvs, e, z⟩ | ⟨kvs, es', z, _⟩ | ⟨c2, es', dx, fs, z, e, rf⟩
    · have : (∀ k : Key, kD k ≠ PyData.none) := fun k z => by cases k <;> cases z
      generalize hg : ((PyData.none, PyData.str c') :: es : List (D × D)) = l at z
      cases z with
      | nil => cases hg
      | cons => injection hg with hg _; injection hg with hg _; exact (this _ hg.symm).elim
    · injection z with z _; injection z with z _; cases z
    · injection z with z1 z2
      injection z1 with _ z1
      injection z1 with z1
      subst z1; subst z2
      exact ⟨dx, fs, e, rf⟩
  obtain ⟨dx, fs, hx, rf⟩ := hk
  intro q nq
  have hxq : x ≠ q := fun z => by rw [z, nq] at hx; cases hx
  have hx1 : upd H q (.dK []) x = some (.ins (G.cl c') dx fs) := by rw [upd_ne hxq]; exact hx
  refine ⟨.ref x, k1, x, _, dx, fs, rfl, hx1, hc, hno, by rw [rf.len]; omega, ?_⟩
  rw [putF_new ((rf.look "spots").2 hlo)]
  have hlk : List.lookup ("spots" : Str) (fs ++ [(("spots" : Str), V.ref q)]) = some (V.ref q) := by
    have := lookup_putF "spots" "spots" (V.ref q) fs
    rw [putF_new ((rf.look "spots").2 hlo)] at this
    rw [this, if_pos rfl]
  have owx : Ow ρ σ iS x := ⟨⟨_, ownAt_some e1⟩, k1⟩
  have fq : F q = none := st.env.same.free nq
  -- the slots without self
  have eT' : (forg [iA, iN, iC, iK] (ρ.set iS none))[iT]? = some (some (.val tt)) := forg_get.mpr ⟨hT, by rw [get_set, if_neg (Ne.symm hTS)]; exact eT⟩
  have now : ∀ i a, Ow (forg [iA, iN, iC, iK] (ρ.set iS none)) σ i a → Ow ρ σ i a ∧ a ≠ x ∧ a ≠ q := by
    rintro i a ⟨⟨d, q1⟩, q2⟩
    obtain ⟨z1, z2⟩ := forg_get.mp q1
    rw [get_set] at z2
    by_cases z : iS = i
    · rw [if_pos z] at z2
      split at z2
      · injection z2 with z2; cases z2
      · cases z2
    · rw [if_neg z] at z2
      have ow : Ow ρ σ i a := ⟨⟨d, z2⟩, q2⟩
      refine ⟨ow, fun y => z (st.env.ne iS i x owx (y ▸ ow)), fun y => ?_⟩
      obtain ⟨o, ho⟩ := st.env.there ow
      rw [y, nq] at ho; cases ho
  let H2 : Hp := upd (upd H q (.dK [])) x (.ins (G.cl c') dx (fs ++ [(("spots" : Str), V.ref q)]))
  have hH2 : ∀ a, a ≠ x → a ≠ q → H2 a = H a := fun a h1 h2 => by
    show upd _ _ _ _ = _
    rw [upd_ne h1, upd_ne h2]
  have en2 : EnvR G F H2 (forg [iA, iN, iC, iK] (ρ.set iS none)) σ := by
    refine (st.env.forget' (i := iS)).forg.other (fun a o h => ?_) (fun i a w => ?_)
    · have h1 : a ≠ x := fun z => by rw [z, k2] at h; cases h
      have h2 : a ≠ q := fun z => by rw [z, fq] at h; cases h
      rw [hH2 a h1 h2]; exact st.env.same a o h
    · obtain ⟨_, h1, h2⟩ := now i a w
      exact hH2 a h1 h2
  refine hI F H2 _ σ _ en2 ?_
  have eI : iE (aCons (mVar iT) aNil) (forg [iA, iN, iC, iK] (ρ.set iS none)) = .ok (enumD ts, forg [iA, iN, iC, iK] (ρ.set iS none)) := by
    unfold iE aCons mVar; rw [eT']
    cases tt <;> first | (cases e21; done) | (injection e21 with e21; subst e21; rfl)
  rw [eI]
  intro F3 H3 J s3 it
  obtain ⟨tl, tg⟩ := tnames_get e2
  -- behind the start of the walk
  have nw : ∀ i, ¬ Ow (forg [iA, iN, iC, iK] (ρ.set iS none)) σ i x := fun i w => (now i x w).2.1 rfl
  have nw2 : ∀ i, ¬ Ow (forg [iA, iN, iC, iK] (ρ.set iS none)) σ i q := fun i w => (now i q w).2.2 rfl
  have x2 : H2 x = some (.ins (G.cl c') dx (fs ++ [(("spots" : Str), V.ref q)])) := upd_same
  have q2 : H2 q = some (.dK []) := by show upd _ _ _ _ = _; rw [upd_ne (Ne.symm hxq), upd_same]
  have x3 : H3 x = some (.ins (G.cl c') dx (fs ++ [(("spots" : Str), V.ref q)])) := s3.keep x _ x2 nw
  have q3 : H3 q = some (.dK []) := s3.keep q _ q2 nw2
  have free3 : ∀ b, F b = none → (∃ o, H2 b = some o ∧ ∀ xs, o ≠ HO.tup xs) → F3 b = none := by
    intro b h2 ⟨o, h3, h4⟩
    cases z : F3 b with
    | none => rfl
    | some y =>
      rcases s3.new b y z with h | h
      · rw [h2] at h; cases h
      · exact (h.ne h3 h4).elim
  have fx3 : F3 x = none := free3 x k2 ⟨_, x2, nofun⟩
  have fq3 : F3 q = none := free3 q fq ⟨_, q2, nofun⟩
  have free4 : ∀ {F4 : Hp} {b : Addr}, (∀ a o, F4 a = some o → F3 a = some o ∨ Nw H3 a o) → F3 b = none → (∃ o, H3 b = some o ∧ ∀ xs, o ≠ HO.tup xs) → F4 b = none := by
    intro F4 b h1 h2 ⟨o, h3, h4⟩
    cases z : F4 b with
    | none => rfl
    | some y =>
      rcases h1 b y z with h | h
      · rw [h2] at h; cases h
      · exact (h.ne h3 h4).elim
  have ow5 : ∀ {σ5 : St} {j : Nat} {a : Addr}, (∀ j, j ∉ [iA, iN, iC, iK] → σ5[j]? = σ[j]?) → Ow (forg [iA, iN, iC, iK] (ρ.set iS none)) σ5 j a → Ow (forg [iA, iN, iC, iK] (ρ.set iS none)) σ j a := by
    rintro σ5 j a h ⟨⟨d, h1⟩, h2⟩
    exact ⟨⟨d, h1⟩, by rw [← h j (forg_get.mp h1).1]; exact h2⟩
  refine ⟨fun i m σ' H' => ∃ F', EnvR G F' H' (forg [iA, iN, iC, iK] (ρ.set iS none)) σ' ∧ Same F3 F' ∧ (∀ a o, F' a = some o → F3 a = some o ∨ Nw H3 a o) ∧
      (∀ a o, H3 a = some o → a ≠ q → H' a = some o) ∧ (∀ j, j ∉ [iA, iN, iC, iK] → σ'[j]? = σ[j]?) ∧ H' q = some (.dK (kvsOf (ns.take i))) ∧ i ≤ ns.length ∧ m = ns.length - i,
    ⟨_, F3, s3.env, .refl _, fun _ _ h => .inl h, fun a o h1 _ => h1, fun _ _ => rfl, q3, Nat.zero_le _, rfl⟩, ?_⟩
  rintro i m σ' H' ⟨F', en, sm, new, keep, sig, hq', hi, rfl⟩
  obtain ⟨i1, i2⟩ := it F' H' sm en.same
  have hx' := keep x _ x3 hxq
  by_cases hl : i < ns.length
  · right
    obtain ⟨d, hd⟩ : ∃ d, ts[i]? = some d := ⟨_, List.getElem?_eq_getElem (by omega)⟩
    obtain ⟨n, dc, dk, rfl, hn'⟩ := tg i d hd
    have he : (enumD ts)[i]? = some (.tuple [.int (i : Nat), .tuple [.str n, dc, dk]]) := by
      unfold enumD; rw [List.getElem?_mapIdx, hd]; rfl
    obtain ⟨go, yl⟩ := i1 i _ he
    refine ⟨go, fun σ4 H4 => ∃ F4, EnvR G F4 H4 (forg [iA, iN, iC, iK] (ρ.set iS none)) σ4 ∧ Same F3 F4 ∧ (∀ a o, F4 a = some o → F3 a = some o ∨ Nw H3 a o) ∧
      (∀ a o, H3 a = some o → a ≠ q → H4 a = some o) ∧ (∀ j, j ∉ [iA, iN, iC, iK] → σ4[j]? = σ[j]?) ∧ H4 q = some (.dK (kvsOf (ns.take (i + 1)))), ?_, ?_⟩
    · rintro σ4 H4 ⟨F4, a1, a2, a3, a4, a5, a7⟩
      exact ⟨_, by omega, F4, a1, a2, a3, a4, a5, a7, by omega, rfl⟩
    · intro v H4 hy
      obtain ⟨F4, gr, rx⟩ := yl v H4 hy
      have en4 := en.grow gr
      have big : ∀ j, np ≤ j → ∀ ρ1 : EV, okSet np j ρ1 = true := fun j h ρ1 => okSet_iff.mpr fun z => absurd z (by omega)
      refine hG F4 H4 (forg [iA, iN, iC, iK] (ρ.set iS none)) σ' (forg [iA, iN, iC, iK] (ρ.set iS none)) σ' _ v _ en4.same .refl rx ⟨((((forg [iA, iN, iC, iK] (ρ.set iS none)).set iA (some (.val (.int (i : Nat))))).set iN (some (.val (.str n)))).set iC (some (.val dc))).set iK (some (.val dk)), ?_, fun σ5 st5 => ?_⟩
      · rw [hmg]
        simp only [gT, gsCons, gsNil, gN, List.length_cons, List.length_nil, if_true, big _ hnp.1, big _ hnp.2.1, big _ hnp.2.2.1, big _ hnp.2.2.2, Option.bind_some, reduceIte, Nat.zero_add, Nat.reduceAdd]
      · have en5 := st5.env en4
        have f5 := Sets.forg st5
        have sg5 : ∀ j, j ∉ [iA, iN, iC, iK] → σ5[j]? = σ[j]? := fun j hj => by rw [(Sets.out st5 hj).2]; exact sig j hj
        have hx4 : H4 x = some (.ins (G.cl c') dx (fs ++ [(("spots" : Str), V.ref q)])) := gr.keep _ _ hx'
        have hq4 : H4 q = some (.dK (kvsOf (ns.take i))) := gr.keep _ _ hq'
        have lA : iA < (forg [iA, iN, iC, iK] (ρ.set iS none)).length := by rw [forg_len, List.length_set]; exact hAl
        have lN : iN < (forg [iA, iN, iC, iK] (ρ.set iS none)).length := by rw [forg_len, List.length_set]; exact hNl
        obtain ⟨d1, d2, d3, d4, d5, d6⟩ := hdd
        have sA : σ5[iA]? = some (some (.int (i : Nat))) := by
          obtain ⟨w, h1, h2⟩ := en5.val iA (.int (i : Nat)) (by
            rw [get_set, if_neg (Ne.symm d3), get_set, if_neg (Ne.symm d2), get_set, if_neg (Ne.symm d1), get_set, if_pos rfl, if_pos lA])
          cases h2; exact h1
        have sN : σ5[iN]? = some (some (.str n)) := by
          obtain ⟨w, h1, h2⟩ := en5.val iN (.str n) (by
            rw [get_set, if_neg (Ne.symm d5), get_set, if_neg (Ne.symm d4), get_set, if_pos rfl, if_pos (by rw [List.length_set]; exact lN)])
          cases h2; exact h1
        have sS : σ5[iS]? = some (some (.ref x)) := by rw [sg5 iS hs]; exact k1
        have nin : n ∉ ns.take i := fun hm => by
          obtain ⟨j, hj1, hj2⟩ := List.mem_iff_getElem.mp hm
          have hj3 : j < i := by rw [List.length_take] at hj1; omega
          rw [List.getElem_take] at hj2
          have h4 : ns[i]'hl = n := by rw [List.getElem?_eq_getElem hl] at hn'; exact Option.some.inj hn'
          have := (List.getElem_inj (h₀ := by omega) (h₁ := hl) hnd).mp (hj2.trans h4.symm)
          omega
        refine ⟨_, sN, _, sS, x, _, dx, _, .ref q, rfl, hx4, hc, hno, hlk, hIn _ _ _ _ ⟨q, _, rfl, DGet.k (k := .inr n) hq4, _, rfl, ?_⟩⟩
        rw [val_none nin]
        refine ⟨_, sA, _, sS, x, _, dx, _, .ref q, rfl, hx4, hc, hno, hlk, _, sN, q, _, rfl, DPut.k (k := .inr n) hq4 ?_, ?_⟩
        · rw [List.length_mapIdx, List.length_take]
          have := sizeLine_eq
          rw [this]; omega
        · have tk : (ns.take i).length = i := by rw [List.length_take]; omega
          have pn := put_new nin
          rw [tk] at pn
          have tks : ns.take i ++ [n] = ns.take (i + 1) := by
            rw [List.take_add_one, hn']; rfl
          rw [pn, tks]
          have e6 : EnvR G F4 H4 (forg [iA, iN, iC, iK] (ρ.set iS none)) σ5 := by
            have := en5.forg (is := [iA, iN, iC, iK])
            rw [f5, forg_forg] at this
            exact this
          have new4 : ∀ a o, F4 a = some o → F3 a = some o ∨ Nw H3 a o := fun a o h => by
            rcases gr.new a o h with h | h
            · exact new a o h
            · cases z : H3 a with
              | none => exact .inr (.inl z)
              | some y =>
                by_cases zb : a = q
                · subst zb; exact (h.ne hq' nofun).elim
                · have k := keep a y z zb
                  rcases h with h | ⟨xs, e, h⟩
                  · rw [k] at h; cases h
                  · exact .inr (.inr ⟨xs, e, z.trans (k.symm.trans h)⟩)
          have fq4 : F4 q = none := free4 new4 fq3 ⟨_, q3, nofun⟩
          refine ⟨F4, e6.other (fun a o h => ?_) (fun j a w => ?_), sm.trans gr.fr, new4, fun a o h1 h2 => ?_, sg5, upd_same⟩
          · rw [upd_ne (fun z => by rw [z, fq4] at h; cases h)]; exact gr.sub a o h
          · rw [upd_ne (now j a (ow5 sg5 w)).2.2]
          · rw [upd_ne h2]; exact gr.keep a o (keep a o h1 h2)
  · left
    refine ⟨i2 i (by unfold enumD; rw [List.length_mapIdx]; omega), ?_⟩
    have hi2 : i = ns.length := by omega
    subst hi2
    rw [List.take_length] at hq'
    have fx' : F' x = none := free4 new fx3 ⟨_, x3, nofun⟩
    have fq' : F' q = none := free4 new fq3 ⟨_, q3, nofun⟩
    have ef := en.freeze hq' fq' (fun j w => (now j q (ow5 sig w)).2.2 rfl)
    have sf : Same F' (upd F' q (.dK (kvsOf ns))) := same_upd fq'
    have fxf : upd F' q (.dK (kvsOf ns)) x = none := by rw [upd_ne hxq]; exact fx'
    have sS : σ'[iS]? = some (some (.ref x)) := by rw [sig iS hs]; exact k1
    have hSl : iS < ρ.length := (List.getElem?_eq_some_iff.mp (ownAt_some e1)).1
    have rkf : R G (upd F' q (.dK (kvsOf ns))) (.dict (spotsD ns 0)) (.ref q) := by
      refine .dK (upd_same) ?_
      have := rk_spots (G := G) (F := upd F' q (.dK (kvsOf ns))) ns 0
      simp only [Nat.zero_add] at this
      exact this
    have smF : Same F F' := s3.fr.trans sm
    have eo := ef.setOwn (i := iS) (d := .dict ((.none, .str c') :: (es ++ [(.str "spots", .dict (spotsD ns 0))]))) fxf (by
      simp only [OwnR]
      exact .inr (.inr ⟨c', _, dx, _, rfl, hx', (rf.mono (smF.trans sf)).append (.cons rkf .nil)⟩)) (fun j w => (now j x (ow5 sig w)).2.1 rfl)
    have ss : σ'.set iS (some (.ref x)) = σ' := by
      apply List.ext_getElem?
      intro j
      rw [get_set]
      by_cases z : iS = j
      · rw [if_pos z, if_pos (List.getElem?_eq_some_iff.mp sS).1, ← z, sS]
      · rw [if_neg z]
    rw [ss] at eo
    have er : (forg [iA, iN, iC, iK] (ρ.set iS none)).set iS (some (.own (.dict ((.none, .str c') :: (es ++ [(.str "spots", .dict (spotsD ns 0))]))))) = (forg [iA, iN, iC, iK] ρ).set iS (some (.own (.dict ((.none, .str c') :: (es ++ [(.str "spots", .dict (spotsD ns 0))]))))) := by
      have hc2 : forg [iA, iN, iC, iK] (ρ.set iS none) = (forg [iA, iN, iC, iK] ρ).set iS none := by
        simp only [List.mem_cons, List.not_mem_nil, or_false, not_or] at hs
        simp only [forg, List.foldl_cons, List.foldl_nil]
        rw [List.set_comm _ _ hs.1, List.set_comm _ _ hs.2.1, List.set_comm _ _ hs.2.2.1, List.set_comm _ _ hs.2.2.2]
      rw [hc2, List.set_set]
    rw [er] at eo
    have now2 : ∀ j a, Ow ((forg [iA, iN, iC, iK] ρ).set iS (some (.own (.dict ((.none, .str c') :: (es ++ [(.str "spots", .dict (spotsD ns 0))])))))) σ' j a → Ow ρ σ j a := by
      rintro j a ⟨⟨d, h1⟩, h2⟩
      rw [get_set] at h1
      by_cases z : iS = j
      · subst z
        rw [sS] at h2
        injection h2 with h2; injection h2 with h2; injection h2 with h2
        subst h2
        exact owx
      · rw [if_neg z] at h1
        obtain ⟨h3, h4⟩ := forg_get.mp h1
        exact ⟨⟨d, h4⟩, by rw [← sig j h3]; exact h2⟩
    refine p _ H' σ' ⟨eo, (st.fr.trans smF).trans sf, fun a o h => ?_, fun a o h w => ?_, fun j a w => st.loc j a (now2 j a w), fun j d h => ?_⟩
    · by_cases zq : a = q
      · subst zq; exact .inr (.inl (st.free nq))
      · rw [upd_ne zq] at h
        have h2n : ∀ b, H2 b = none → H b = none := fun b hb => by
          by_cases z1 : b = x
          · subst z1; rw [x2] at hb; cases hb
          · by_cases z2 : b = q
            · subst z2; exact nq
            · rw [hH2 b z1 z2] at hb; exact hb
        have h2w : Nw H2 a o → Nw H a o := fun hb => by
          rcases hb with hb | ⟨xs, e, hb⟩
          · exact .inl (h2n a hb)
          · refine .inr ⟨xs, e, ?_⟩
            by_cases z1 : a = x
            · subst z1; rw [x2] at hb; injection hb with hb; rw [e] at hb; cases hb
            · rw [hH2 a z1 zq] at hb; exact hb
        rcases new a o h with h | h
        · rcases s3.new a o h with h | h
          · exact st.new a o h
          · exact .inr (st.nw (h2w h))
        · exact .inr (st.nw (h2w (s3.nw h)))
    · have h1 := st.keep a o h w
      have nox : a ≠ x := fun z => by
        subst z
        rcases st.loc iS a owx with k | k
        · exact w iS k
        · rw [h] at k; cases k
      have noq : a ≠ q := fun z => by subst z; rw [nq] at h1; cases h1
      refine keep a o (s3.keep a o (by rw [hH2 a nox noq]; exact h1) fun j w2 => ?_) noq
      obtain ⟨w3, _⟩ := now j a w2
      rcases st.loc j a w3 with k | k
      · exact w j k
      · rw [h] at k; cases k
    · obtain ⟨⟨d', h1⟩, h2⟩ := st.par j d h
      have hj : j < np := by rw [← hn]; exact (List.getElem?_eq_some_iff.mp h).1
      have hjv : j ∉ [iA, iN, iC, iK] := by
        simp only [List.mem_cons, List.not_mem_nil, or_false, not_or]
        omega
      refine ⟨?_, by rw [sig j hjv]; exact h2⟩
      rw [get_set]
      by_cases z : iS = j
      · exact ⟨_, by rw [if_pos z, if_pos (by rw [forg_len]; exact hSl)]⟩
      · exact ⟨d', by rw [if_neg z]; exact forg_get.mpr ⟨hjv, h1⟩⟩
end
end Fr
/-! sets of texts: how many different ones -/
namespace Fr
open PySem L2 PyProof.Rows
/-- the different ones, in order of their coming -/
def difs (ys : List Str) : List Str := ys.foldl (fun acc y => if acc.any (· == y) = true then acc else acc ++ [y]) []
theorem difs_snoc (ys : List Str) (y : Str) : difs (ys ++ [y]) = if (difs ys).any (· == y) = true then difs ys else difs ys ++ [y] := by
  unfold difs; rw [List.foldl_append]; rfl
theorem difs_any : ∀ (n : Nat) (ys : List Str), ys.length = n → ∀ k : Str, (difs ys).any (· == k) = ys.any (· == k)
  | 0, ys, h, k => by cases ys with
    | nil => rfl
    | cons _ _ => cases h
  | n + 1, ys, h, k => by
    obtain ⟨zs, y, rfl⟩ : ∃ zs y, ys = zs ++ [y] := by
      have hn : ys ≠ [] := fun z => by subst z; cases h
      exact ⟨ys.dropLast, ys.getLast hn, (List.dropLast_concat_getLast hn).symm⟩
    have hz : zs.length = n := by simpa using h
    have ih := difs_any n zs hz
    rw [difs_snoc]
    by_cases c : (difs zs).any (· == y) = true
    · rw [if_pos c, List.any_append, ih k]
      by_cases e : y = k
      · subst e; rw [← ih y, c]; rfl
      · simp [e]
    · rw [if_neg c, List.any_append, List.any_append, ih k]
theorem difs_len (ys : List Str) : (difs ys).length ≤ ys.length := by
  suffices h : ∀ (zs acc : List Str), (zs.foldl (fun acc y => if acc.any (· == y) = true then acc else acc ++ [y]) acc).length ≤ acc.length + zs.length by simpa [difs] using h ys []
  intro zs
  induction zs with
  | nil => intro acc; simp
  | cons z zs ih =>
    intro acc
    rw [List.foldl_cons]
    refine Nat.le_trans (ih _) ?_
    split <;> simp <;> omega
section
variable {prog : Program} {w : World} {A : Around} {R : Result → Shared → Prop} {I : Addr} {fp wr : List Addr} {G : Array GenState → Array GenState → Prop} {n : Nat} {P : Nat → Value → Prop} {St : Nat → Shared → Prop}
theorem set_turns (W : WalksS prog w A.in1 I fp wr G n P St) (S : Addr) (hSf : S ∉ fp) (ys : List Str) (hsz : ys.length = n) (hb : n + 1 < scanBound) (hv : ∀ j v, P j v → ∃ t, v = .str (ys.getD j Str.empty) t) :
    ∀ (k j : Nat) (s : Shared), n - j = k → j ≤ n → St j s → s.heap.SetOf (strKind prog w) S (fun q => (ys.take j).any (· == q)) (difs (ys.take j)).length →
      (∀ s', Moved (S :: wr) G s s' → s'.heap.SetOf (strKind prog w) S (fun q => ys.any (· == q)) (difs ys).length → R (.ok (.ret .none)) s') →
      codeAny (model prog w) A (.builtin "set.update.loop" ⟨[.ref S, .ref I], []⟩) R s := by
  have nw : S ∉ wr := fun z => hSf (W.sub _ z)
  have sb : ∀ b ∈ wr, b ∈ S :: wr := fun b z => List.mem_cons_of_mem _ z
  intro k
  induction k with
  | zero =>
    intro j s hk hj st hS hR
    obtain rfl : j = n := by omega
    rw [List.take_of_length_le (by omega)] at hS
    refine codeAny_builtin PyProof.Rows.F.entry_set_update_loop (by
      rw [Around.under_plainId PyProof.Rows.F.plain_set_update_loop _]
      show wpAny _ A.in1 (pyNext (.ref I) >>= _) _ _ s
      refine wpAny_bind (W.done s _ _ st fun s2 mv => ?_)
      show wpAny _ A.in1 (ret Value.none) _ _ s2
      obtain ⟨o, es, ep, t, ho, more⟩ := hS
      exact wpAny_pure (hR s2 (mv.mono sb) ⟨o, es, ep, t, mv.heap S _ nw ho, more⟩))
  | succ k ih =>
    intro j s hk hj st hS hR
    have lt : j < n := by omega
    refine codeAny_builtin PyProof.Rows.F.entry_set_update_loop ?_
    rw [Around.under_plainId PyProof.Rows.F.plain_set_update_loop _]
    show wpAny _ A.in1 (pyNext (.ref I) >>= _) _ _ s
    refine wpAny_bind (W.item j s _ _ lt st fun v s2 hP st2 mv => ?_)
    obtain ⟨t, rfl⟩ := hv j v hP
    have hS2 : s2.heap.SetOf (strKind prog w) S (fun q => (ys.take j).any (· == q)) (difs (ys.take j)).length := by
      obtain ⟨o, es, ep, tb, ho, more⟩ := hS; exact ⟨o, es, ep, tb, mv.heap S _ nw ho, more⟩
    show wpAny _ A.in1 (holding [Value.str (ys.getD j Str.empty) t] (setAdd S (.str (ys.getD j Str.empty) t)) >>= _) _ _ s2
    refine wpAny_bind (wpAny_holding (by
      unfold setAdd
      refine wpAny_holding (wpAny_bind ((strKind prog w).pyHash (k := ys.getD j Str.empty) (strKind_is _ _ _ _) ?_))
      have rm : (difs (ys.take j)).length + 1 < scanBound := by
        have h1 := difs_len (ys.take j)
        rw [List.length_take] at h1; omega
      refine wpAny_setAddHashed_of (knd := strKind prog w) (s := { s2 with toks := s2.toks + 1 }) (strKind_is _ _ _ _) rfl hS2 rm fun h3 same hS3 => ?_
      have tk : ys.take (j + 1) = ys.take j ++ [ys.getD j Str.empty] := by
        rw [List.take_add_one, List.getD_eq_getElem?_getD, List.getElem?_eq_getElem (by omega)]; rfl
      have hS4 : h3.SetOf (strKind prog w) S (fun q => (ys.take (j + 1)).any (· == q)) (difs (ys.take (j + 1))).length := by
        refine SetOf_congr hS3 (fun q => ?_) ?_
        · rw [tk, List.any_append]
          congr 1
          simp only [List.any_cons, List.any_nil, Bool.or_false]
          rw [Bool.eq_iff_iff, decide_eq_true_eq, beq_iff_eq]; exact eq_comm
        · rw [tk, difs_snoc, difs_any _ _ rfl]
          split <;> simp
      refine wpAny_pure ⟨plainId_quiet PyProof.Rows.F.plain_set_update_loop _, ih (j + 1) _ (by omega) lt (W.frame _ s2 _ _ st2 (Nat.le_succ _) fun b z o e => ?_) hS4 fun s5 mv5 hS5 => ?_⟩
      · rw [same.2 b (fun y : b = S => hSf (by rw [← y]; exact z))]; exact e
      · refine hR s5 (Moved.trans W.gtrans ((mv.mono sb).then_heap (Nat.le_succ _) fun b o z e => ?_) mv5) hS5
        rw [same.2 b (fun y : b = S => z (by rw [y]; exact List.mem_cons_self))]; exact e))
end
section
variable {prog : Program} {w : World} {A : Around} {E : Value → Shared → Prop} {s : Shared}
/-- the new set's object -/
abbrev set0 (led : Bool) : Obj := { cls := .type "set", dict := none, data := .set #[] 0 (.fresh 0 0 led) }
set_option maxHeartbeats 3200000 in
theorem call_set_tup {l : Addr} {items : Array Value} {ys : List Str} {Q : Value → Shared → Prop} (hh : A.handled = none) (hl : s.heap.IsTuple l items) (hi : StrsAre items.toList ys) (hn : ys.length ≤ 50)
    (fin : ∀ (h' : Heap) (tk : Nat), h'.SetOf (strKind prog w) s.heap.objs.size (fun q => ys.any (· == q)) (difs ys).length → (∀ b o, b < s.heap.objs.size → s.heap.get? b = some o → h'.get? b = some o) → Q (.ref s.heap.objs.size) { s with heap := h', toks := tk }) :
    wpAny (model prog w) A (call (.type "set") [.ref l]) Q E s := by
  obtain ⟨c0, tl, hmro⟩ := PySem.F.called_set.mro
  have made := PySem.F.called_set.made; have sub := PySem.F.called_set.sub
  refine wpAny_call (codeAny_of_tree ?_)
  show wpAny _ _ (callAny (.type "set") _) _ _ _
  refine wpAny_pure ⟨Code.quiet_builtin _ (by decide +kernel), codeAny_builtin PySem.F.entry_type_call (by
    rw [Around.under_plain (weight_type_call_type "set" [.ref l] []) rfl]
    have n1 := PySem.F.called_set.notType; have n2 := PySem.F.called_set.canCreate
    have n3 := PySem.F.typeCall_set_1 (.ref l)
    repeat (any_goals (first | assumption | wp_step))
    refine codeAny_mono (code_set_new_1 (.ref l) (E := E) (Q₁ := fun x s1 => ∃ led : Bool, x = .ref s.heap.objs.size ∧ s1 = { s with heap := s.heap.push (set0 led) }) fun led => ⟨led, rfl, rfl⟩) fun r s1 hr => ?_
    cases r with
    | error e => exact hr
    | ok fl =>
      cases fl with
      | ret x =>
        obtain ⟨led, rfl, rfl⟩ := hr
        have at0 : (s.heap.push (set0 led)).get? s.heap.objs.size = some (set0 led) := Heap.get?_push_size _ rfl
        have ty0 : Shared.TypeIs { s with heap := s.heap.push (set0 led) } (.ref s.heap.objs.size) "set" := ⟨_, at0, rfl⟩
        have li := PySem.F.called_set.init.lookup
        have bi := PySem.F.called_set.init.bind (.ref s.heap.objs.size)
        repeat (any_goals (first | assumption | wp_step))
        refine codeAny_mono (codeAny_call_builtin (R := wants (fun r s2 => r = .none ∧ ∃ h' tk, s2 = { s with heap := h', toks := tk } ∧ h'.SetOf (strKind prog w) s.heap.objs.size (fun q => ys.any (· == q)) (difs ys).length ∧
            (∀ b o, b < s.heap.objs.size → s.heap.get? b = some o → h'.get? b = some o)) E) PySem.F.called_set.init.plain PySem.F.entry_set_init (check_set_init_1 ty0 ?_)) fun r2 s2 hr2 => ?_
        · obtain ⟨⟨ocls, odict, odata, oslots⟩, hol, hcl, nl, hdl⟩ := hl
          simp only at hcl hdl
          subst hcl; subst hdl
          have hol2 : (s.heap.push (set0 led)).get? l = some { cls := .type "tuple", dict := odict, data := .seq items nl, slots := oslots } := Heap.get?_push_of_some _ hol
          have s1 := PySem.F.sub_tuple_set; have s2 := PySem.F.sub_tuple_frozenset
          have s3 : (Value.type "tuple" == Value.type "dict") = false := by decide
          have hl1 : (s.heap.push (set0 led)).IsTuple l items := ⟨_, hol2, rfl, nl, rfl⟩
          unfold Builtin.«set.__init__» noKeywords Builtin.Frozenset.updateFrom
          generalize hPI : pyIter = PI
          wp_walk
          subst hPI
          refine wpAny_pyIter_tuple hl1 (wpAny_bind (wpAny_runValue ?_))
          have lS : l < s.heap.objs.size := Heap.lt_size hol
          have h3 : A.in1.in1.in1.handled = none := by simp [hh]
          have nI : l ≠ (s.heap.push (set0 led)).objs.size := by rw [Heap.size_push]; exact Nat.ne_of_lt (Nat.lt_succ_of_lt lS)
          have nS : s.heap.objs.size ∉ [(s.heap.push (set0 led)).objs.size, l] := by
            rw [Heap.size_push]
            simp only [List.mem_cons, List.not_mem_nil, or_false, not_or]; exact ⟨Nat.ne_of_lt (Nat.lt_succ_self _), Nat.ne_of_gt lS⟩
          have sz : ys.length = items.size := by rw [← StrsAre.len_eq hi, Array.length_toList]
          refine set_turns ((Walks.tuple h3 _ l nI items).toS) s.heap.objs.size nS ys sz (by unfold scanBound; omega) (fun j v hv => SS.strs_at hi j v (by rw [Array.getElem?_toList]; exact hv)) (items.size - 0) 0 _ (by omega) (Nat.zero_le _) ⟨⟨_, Heap.get?_push_size _ rfl, rfl, rfl⟩, (hl1.push _)⟩ ?_ ?_
          · have g0 : ((s.heap.push (set0 led)).push { cls := .type "tuple_iterator", data := .fields #[.ref l, .int 0 0] }).get? s.heap.objs.size = some (set0 led) := Heap.get?_push_of_some _ at0
            exact SetOf_congr ((setObjOf_fresh (knd := strKind prog w) led).setOf g0 (by unfold scanBound; omega)) (fun _ => rfl) rfl
          · intro sf mv hSf
            obtain ⟨hf, gf, df, tf, of⟩ := sf
            have e1 : gf = s.gens := mv.gens
            have e2 : df = s.drawn := mv.drawn
            have e3 : of = s.os := mv.os
            subst e1; subst e2; subst e3
            show wpAny _ _ _ _ _ _
            refine wpAny_pure ?_
            show wpAny _ _ (ret Value.none) _ _ _
            refine wpAny_pure ⟨rfl, hf, tf, rfl, hSf, fun b o z e => mv.heap b o ?_ (Heap.get?_push_of_some _ (Heap.get?_push_of_some _ e))⟩
            simp only [List.mem_cons, List.not_mem_nil, or_false, not_or, Heap.size_push]
            exact ⟨Nat.ne_of_lt z, Nat.ne_of_lt (Nat.lt_succ_of_lt z)⟩
        · cases r2 with
          | error e => exact hr2
          | ok f2 =>
            cases f2 with
            | ret r =>
              obtain ⟨rfl, h', tk, rfl, hS', hk'⟩ := hr2
              repeat (any_goals (first | assumption | wp_step))
              exact fin _ _ hS' hk'
            | _ => exact hr2.elim
      | _ => exact hr.elim)⟩
end
/-! len(set(xs)), xs a tuple of texts -/
section
variable {X : Cx} {K : PySem.W.Frag} {cl : Str → Addr} {E : XK} {kk : Nat} {a : Expr} {ta : TE} {ma : EV → Out (Rv × EV)} {p p2 q pos : Pos}
def tLenDifs (K : PySem.W.Frag) (ta : TE) : TE := fun σ H Q => ta σ H fun x H1 => ∃ l, ∃ ys : List Str, x = .ref l ∧ SqT K H1 l (ys.map V.str) ∧ ys.length ≤ 50 ∧ Q (.int (difs ys).length) H1
theorem pe_lenDifs (hc : X.calm = true) (hm : X.mg "len" = none) (hm2 : X.mg "set" = none) (ha : PE X a ta) (hg : Gl X "len" := by rfl) (hg2 : Gl X "set" := by rfl)
    (na : starEach [a] X.env = (false, eval a X.env) :: starEach [] X.env := by rfl) : PE X (.Call (.Name "len" p) [.Call (.Name "set" p2) [a] [] q] [] pos) (tLenDifs X.K ta) := by
  refine ⟨fun pins s σ H Q I h => Call_ (ld_blt I hg hm boot_len (PyProof.Rows.callWith_builtin1 (PyProof.Rows.args_cons ?_ rfl) rfl rfl))⟩
  refine Call_ (ld_blt I hg2 hm2 boot_set (PyProof.Rows.callWith_type1 (PyProof.Rows.args_cons (thn (ha.run pins s σ H _ I h) fun v s1 ⟨x, H1, I1, r1, q1⟩ => PyProof.Rows.args_nil ?_) na) na rfl))
  obtain ⟨l, ys, rfl, hq, hy, q1⟩ := q1
  cases r1
  obtain ⟨its, r, pl, hz⟩ := I1.tuple hq
  refine call_set_tup (I1.ok.hd hc) pl (by simpa using strsAre_of r) hy fun h' tk hS hk => PyProof.Rows.args_nil ?_
  have hl := difs_len ys
  obtain ⟨o, es, ep, t, ho, hex, hd, _, _, _, hf, hn⟩ := hS
  have I2 : Inv X pins σ H1 { s1 with heap := h', toks := tk } := I1.kept fun b o e => hk b o (Heap.lt_size e) e
  exact call_len_set ho hex hd hf (by rw [hn] <;> omega) ⟨.int (difs ys).length, H1, I2.tok _, ⟨_, by rw [hn]⟩, q1⟩
def lenSetD : D → Option Sl
  | .tuple ds => match strsD ds with
    | some ys => if ys.length ≤ 50 then some (.val (.int (difs ys).length)) else none
    | none => none
  | _ => none
theorem strsD_rs {G : Gx} {F : Hp} : ∀ {ds : List D} {vs : List V} {ys : List Str}, Rs G F ds vs → strsD ds = some ys → vs = ys.map V.str
  | [], _, ys, .nil, h => by
    simp only [strsD] at h; injection h with h; subst h; rfl
  | d :: ds, _, ys, .cons r t, h => by
    cases d <;> first | (simp [strsD] at h; done) | skip
    rename_i z
    simp only [strsD] at h
    obtain ⟨zs, h1, rfl⟩ := Option.map_eq_some_iff.mp h
    cases r
    rw [strsD_rs t h1]; rfl
theorem se_lenSet (C : Cw X K E kk) (hm : X.mg "len" = none) (hm2 : X.mg "set" = none) (h : SE X K cl E a ta ma) (hg : Gl X "len" := by rfl) (hg2 : Gl X "set" := by rfl)
    (na : starEach [a] X.env = (false, eval a X.env) :: starEach [] X.env := by rfl) : SE X K cl E (.Call (.Name "len" p) [.Call (.Name "set" p2) [a] [] q] [] pos) (tLenDifs K ta) (m1 lenSetD ma) := by
  obtain ⟨kq, _, _, calm, _⟩ := C
  subst kq
  refine ⟨pe_lenDifs calm hm hm2 h.1 hg hg2 na, ?_⟩
  refine md_1 (r := fun x H1 Q => ∃ l, ∃ ys : List Str, x = .ref l ∧ SqT X.K H1 l (ys.map V.str) ∧ ys.length ≤ 50 ∧ Q (.int (difs ys).length) H1) (fun F H d x Q s rx o => ?_) h.2
  cases d <;> first | exact o.elim | skip
  rename_i ds
  obtain ⟨l, vs, rfl, k, r⟩ := rx
  simp only [lenSetD] at o
  cases z : strsD ds with
  | none => rw [z] at o; exact o.elim
  | some ys =>
    rw [z] at o
    dsimp only at o
    by_cases c : ys.length ≤ 50
    · rw [if_pos c] at o
      exact ⟨l, ys, rfl, by rw [← strsD_rs r z]; exact sqT_same s k.sq, c, okS_val s o (.int _)⟩
    · rw [if_neg c] at o; exact o.elim
end
end Fr
namespace Fr
open PySem L2
section
variable {G : Gx} {X : Cx} {K : PySem.W.Frag} {cl : Str → Addr} {E : XK} {kk : Nat} {o e f : Expr} {to te tf : TE} {mo me mf : EV → Out (Rv × EV)} {apos cpos pos : Pos} {F H : Hp}
/-! ### t.index(x), t a tuple of texts -/
/-- the first place of a text -/
def posS (z : Str) : List Str → Option Nat
  | [] => none
  | y :: ys => if y = z then some 0 else (posS z ys).map (· + 1)
/-! ### l.index(x), l a list of any data -/
def posD (d : D) : List D → Option Nat
  | [] => none
  | y :: ys => if PyData.eqv y d = true then some 0 else (posD d ys).map (· + 1)
def idxT (ds : List D) (z : Str) : Option Nat := (strsD ds).bind (posS z)
def mIdxT (o x : EV → Out (Rv × EV)) : EV → Out (Rv × EV) := fun ρ => (fzO (o ρ)).bind fun r => match r.1 with
  | .val (.tuple ds) => if stD ds = true then (fzO (x r.2)).bind fun y => match y.1 with
      | .val (.str z) => match idxT ds z with
        | some j => .ok (.val (.int (j : Nat)), y.2)
        | none => .bad
      | _ => .bad
    else .bad
  | _ => .bad
def idxL : D → List D → Option Sl
  | .list ds, [d] => if SeqAt.shaped (.list ds) = true ∧ SeqAt.shaped d = true then (posD d ds).map fun j => .val (.int (j : Nat)) else none
  | _, _ => none
def isTupO : Out (Rv × EV) → Bool
  | .ok (.val (.tuple _), _) => true
  | _ => false
def mIdx (o x : EV → Out (Rv × EV)) : EV → Out (Rv × EV) := fun ρ => if isTupO (fzO (o ρ)) = true then mIdxT o x ρ else mM "list" idxL o (aCons x aNil) ρ
/-! ### d.get(k, x) -/
def mGet2 (o k x : EV → Out (Rv × EV)) : EV → Out (Rv × EV) := fun ρ => (fzO (o ρ)).bind fun r => match r.1 with
  | .val d => if isDc d = true then (fzO (k r.2)).bind fun y => match y.1 with
      | .val e => (fzO (x y.2)).bind fun z => match z.1 with
        | .val g => match dgD d e with
          | some ov => .ok (.val (ov.getD g), z.2)
          | none => .bad
        | _ => .bad
      | _ => .bad
    else .bad
  | _ => .bad
/-! ### xs[::-1], xs a list -/
end
end Fr
namespace Fr
open PySem L2
section
variable {G : Gx} {X : Cx} {K : PySem.W.Frag} {cl : Str → Addr} {E : XK} {kk : Nat} {a b : Expr} {ta tb : TE} {ma mb : EV → Out (Rv × EV)} {pos : Pos} {F H : Hp}
/-! ### x in o, by an own __contains__ -/
def mInO (mf : Mf) (c : Str) (neg : Bool) (a b : EV → Out (Rv × EV)) : EV → Out (Rv × EV) := fun ρ => (fzO (a ρ)).bind fun x => match x.1 with
  | .val d => (fzO (b x.2)).bind fun y => match y.1 with
    | .val ob => if isOb c ob = true then (callF mf y.2 [.val ob, .val d]).bind fun z => match z.1 with
        | .val (.bool t) => .ok (.val (.bool (t != neg)), z.2)
        | _ => .bad
      else .bad
    | _ => .bad
  | _ => .bad
end
end Fr
namespace Fr
open PySem L2 PyProof.Rows PySem.W
/-! ### sorted(..) of data -/
def aliB (ds : List D) : Bool := ds.all fun d => ds.all fun e => alike d e
def srtB (ds : List D) : Bool := (ds.all fun d => match d with | .tuple (_ :: _) => true | _ => false) || ds.all fun d => match d with | .tuple _ => false | .none => false | _ => true
def okSort (ds : List D) : Bool := aliB ds && (srtB ds && (ds.all (fun d => d.canLay0 && decide (d.depth ≤ 50)) && decide (ds.length ≤ 1000000)))
theorem aliB_ok {ds : List D} (h : aliB ds = true) : AllAlike ds := fun d hd e he => List.all_eq_true.mp (List.all_eq_true.mp h d hd) e he
theorem srtB_ok {ds : List D} (h : srtB ds = true) : Sortable ds := by
  rcases Bool.or_eq_true_iff.mp h with h | h
  · refine .inl fun d hd => ?_
    have := List.all_eq_true.mp h d hd
    split at this
    · exact ⟨_, _, rfl⟩
    · cases this
  · refine .inr fun d hd => ?_
    have := List.all_eq_true.mp h d hd
    constructor
    · rintro rfl; cases this
    · rintro xs rfl; cases this
def leD1 : D → D → Bool := dataLe false id
def sortL (ds : List D) : List D := ds.mergeSort leD1
section
variable {G : Gx} {X : Cx} {K : PySem.W.Frag} {cl : Str → Addr} {E : XK} {kk : Nat} {o e : Expr} {to te : TE} {mo me : EV → Out (Rv × EV)} {apos mpos pos p : Pos} {F H : Hp}
theorem each_zip {S : V → Value → Prop} : ∀ {ys : List V} {us : List Value} {ds : List D}, Paired S ys us → us.length = ds.length → EachIs (fun (u : Value) (b : V × D) => S b.1 u) us (ys.zip ds)
  | [], _, ds, .nil, h => by simpa using .nil
  | _ :: ys, _ :: us, [], .cons _ _, h => by cases h
  | y :: ys, u :: us, d :: ds, .cons r t, h => .cons r (each_zip t (by simpa using h))
theorem each_zip2 {h : Heap} : ∀ {ys : List V} {us : List Value} {ds : List D} {as : List Addr}, ys.length = us.length → ReadsAll h us ds as → EachIs (fun (u : Value) (b : V × D) => ∃ as, Reads h u b.2 as) us (ys.zip ds)
  | ys, _, _, _, hl, .nil => by
    cases ys with
    | nil => exact .nil
    | cons _ _ => cases hl
  | ys, _, _, _, hl, .cons r t => by
    cases ys with
    | nil => cases hl
    | cons y ys => exact .cons ⟨_, r⟩ (each_zip2 (by simpa using hl) t)
theorem vals_each {us : List Value} {bs : List (V × D)} (h : EachIs (fun (u : Value) (b : V × D) => RelV b.1 u) us bs) : Vals (bs.map (·.1)) us := by
  induction h with
  | nil => exact .nil
  | cons r _ ih => exact .cons r ih
abbrev srtP (ys : List V) (ds : List D) : List (V × D) := (ys.zip ds).mergeSort (dataLe false Prod.snd)
theorem srtP_len (ys : List V) (ds : List D) : (srtP ys ds).length ≤ ys.length := by
  rw [List.length_mergeSort, List.length_zip]; exact Nat.min_le_left _ _
theorem zip_snd {ys : List V} {ds : List D} (h : ys.length = ds.length) : (ys.zip ds).map Prod.snd = ds := by rw [← List.unzip_snd, List.unzip_zip h]
theorem dpAll_len {ys : List V} {ds : List D} (h : DpAll K H ys ds) : ys.length = ds.length := by
  induction ds generalizing ys with
  | nil => cases h; rfl
  | cons d ds ih => cases h with
    | cons _ t => simp [ih t]
/-- what is asked of the things to be sorted -/
structure SrtOk (K : PySem.W.Frag) (H : Hp) (ys : List V) (ds : List D) : Prop where
  dp : DpAll K H ys ds
  al : AllAlike ds
  so : Sortable ds
  dep : ∀ d ∈ ds, d.depth ≤ 50
def rSortL (K : PySem.W.Frag) : List V → Hp → VK → Prop := fun xs H Q => ∃ a ys ds, xs = [.ref a] ∧ SqL K H a ys ∧ SrtOk K H ys ds ∧ ∀ p, H p = none → Q (.ref p) (upd H p (.lst ((srtP ys ds).map (·.1))))
theorem cr_sortL (hu : X.A.units + 64 < cLine) : CallR X (.builtin "sorted") (rSortL X.K) := by
  intro pins s σ H vs us Q I r h
  obtain ⟨a, ys, ds, rfl, hs, ok, q⟩ := h
  obtain ⟨its, rv, hl, hz⟩ := I.list hs
  rw [Vals.ref1 r]
  obtain ⟨as, h4⟩ := Dp.readsAll I ds _ its ok.dp rv
  have l1 := dpAll_len ok.dp
  have l2 := rv.length
  have eq : (ys.zip ds).map Prod.snd = ds := zip_snd l1
  refine sorted_data (β := V × D) (R := fun u b => RelV b.1 u) (enc := Prod.snd) (bs := ys.zip ds) hl.isList (each_zip rv (by omega)) (each_zip2 (by omega) h4) (by rw [eq]; exact ok.al) (by rw [eq]; exact ok.so)
    (by rw [List.length_zip]; omega) (fun b hb => by
      have := ok.dep b.2 (by rw [← eq]; exact List.mem_map_of_mem hb)
      omega) fun out hlo he => ?_
  obtain ⟨ep, he2⟩ := sortedAll_at s.heap its out.toArray
  have hlen : ((srtP ys ds).map (·.1)).length ≤ sizeLine := by rw [List.length_map]; exact Nat.le_trans (srtP_len ys ds) hz
  exact ⟨.ref _, upd H (s.heap.objs.size + 1) (.lst ((srtP ys ds).map (·.1))), I.laid (t' := s.toks) (fun _ _ => sortedAll_old) (Nat.le_succ _) ⟨hlen, out, ep, vals_each he, he2⟩, rfl, q _ (I.hok.fresh (Nat.le_succ _))⟩
/-! ### sorted(d.values()), d a dict with tuples as keys -/
theorem rs_pairs {ps : List (V × D)} (h : ∀ p ∈ ps, R G F p.2 p.1) : Rs G F (ps.map (·.2)) (ps.map (·.1)) := by
  induction ps with
  | nil => exact .nil
  | cons q ps ih => exact .cons (h q (.head _)) (ih fun x hx => h x (.tail _ hx))
theorem rs_zip {ds : List D} {xs : List V} (r : Rs G F ds xs) : ∀ p ∈ xs.zip ds, R G F p.2 p.1 := by
  induction ds generalizing xs with
  | nil => cases r; intro p h; simp at h
  | cons d ds ih => cases r with
    | cons q t =>
      intro p h
      rw [List.zip_cons_cons] at h
      rcases List.mem_cons.mp h with rfl | h
      · exact q
      · exact ih t p h
theorem rs_sort {ds : List D} {xs : List V} (r : Rs G F ds xs) : Rs G F (sortL ds) ((srtP xs ds).map (·.1)) := by
  have e : (srtP xs ds).map (·.2) = sortL ds := by
    have h1 := List.map_mergeSort (r := dataLe false Prod.snd) (s := leD1) (f := (Prod.snd : V × D → D)) (l := xs.zip ds) (fun _ _ _ _ => rfl)
    rw [show ((xs.zip ds).map Prod.snd) = ds from zip_snd r.length] at h1
    exact h1
  rw [← e]
  exact rs_pairs fun p hp => rs_zip r p (List.mem_mergeSort.mp hp)
theorem okSort_ok {ds : List D} {xs : List V} (s : Same F H) (h : okSort ds = true) (r : Rs G F ds xs) : SrtOk G.K H xs ds := by
  unfold okSort at h
  simp only [Bool.and_eq_true, List.all_eq_true, decide_eq_true_eq] at h
  obtain ⟨h1, h2, h3, h4⟩ := h
  refine ⟨r.dp s ?_, aliB_ok h1, srtB_ok h2, fun d hd => (h3 d hd).2⟩
  have : ∀ l : List D, (∀ d ∈ l, d.canLay0 = true) → PyData.canLayAll0 l = true := by
    intro l
    induction l with
    | nil => intro _; rfl
    | cons d l ih => intro hd; rw [PyData.canLayAll0, hd d (.head _), ih fun x hx => hd x (.tail _ hx)]; rfl
  exact this ds fun d hd => (h3 d hd).1
def sortD1 : D → Option Sl
  | .list ds => if okSort ds = true then some (.own (.list (sortL ds))) else none
  | _ => none
def sortD : List D → Option Sl := one sortD1
theorem r_sort (C : Cw X K E kk) : CallR X (.builtin "sorted") (rSortL K) := C.kq ▸ cr_sortL C.u64
theorem v_sort : OpN G (rSortL G.K) sortD := v_one fun F H d x Q s rx h => by
  cases d <;> first | exact h.elim | skip
  rename_i ds
  obtain ⟨a, xs, rfl, q, r⟩ := rx
  simp only [sortD1] at h
  by_cases c : okSort ds = true
  · rw [if_pos c] at h
    exact ⟨a, xs, ds, rfl, .of q, okSort_ok s c r, fun p n => okS_list s h (rs_sort r) n⟩
  · rw [if_neg c] at h; exact h.elim
end
end Fr
namespace Fr
open PySem L2
open AutoSeq1 (wpAny_loadPart')
open MeetsSeq MeetsSeq2 MeetsSeq3 SeqRoads2
/-! ### t * 0 and t * 1 -/
theorem tup_mul1 (l : Addr) (items : Array Value) (n : Nat) (dd : Option Addr) (sl : Array (Option Value)) (u : Tok) :
    Meets (Builtin.«tuple.__mul__» ⟨[.ref l, .int 1 u], []⟩) (fun _ R s => s.heap.get? l = some { cls := .type "tuple", dict := dd, data := .seq items n, slots := sl } ∧ R (.ok (.ret (Value.ref l))) s) :=
  .of_wp fun prog w A R s h => by
    obtain ⟨hp, g, d, tk, os⟩ := s
    obtain ⟨hl, h⟩ := h
    have f1 := AutoSeq1.idx_int
    have c1 : (items.isEmpty || (1 : Int) == 1) = true := by simp
    wp_walk using wpAny_loadPart' hl
    repeat (first
      | (refine wpAny_ite_false (by decide) ?_; wp_walk using wpAny_loadPart' hl)
      | (refine wpAny_ite_true (decide_eq_true c1) ?_; wp_walk using wpAny_loadPart' hl))
    exact ⟨_, rfl, h⟩
theorem tup_mul0 (l : Addr) (items : Array Value) (n : Nat) (dd : Option Addr) (sl : Array (Option Value)) (u : Tok) (c1 : items.isEmpty = false) :
    Meets (Builtin.«tuple.__mul__» ⟨[.ref l, .int 0 u], []⟩) (fun _ R s => s.heap.get? l = some { cls := .type "tuple", dict := dd, data := .seq items n, slots := sl } ∧ R (.ok (.ret (Value.ref s.heap.objs.size))) { s with heap := s.heap.push { cls := Value.type "tuple", data := Data.seq #[] }, toks := s.toks }) :=
  .of_wp fun prog w A R s h => by
    obtain ⟨hp, g, d, tk, os⟩ := s
    obtain ⟨hl, h⟩ := h
    have f1 := AutoSeq1.idx_int
    have c2 : (items.isEmpty || (0 : Int) == 1) = false := by rw [c1]; decide
    have c3 : (decide ((0 : Int) ≤ 0) || items.isEmpty) = true := by simp
    wp_walk using wpAny_loadPart' hl
    repeat (first
      | (refine wpAny_ite_false (by decide) ?_; wp_walk using wpAny_loadPart' hl)
      | (refine wpAny_ite_false (decide_eq_false (by rw [c2]; exact Bool.false_ne_true)) ?_; wp_walk using wpAny_loadPart' hl)
      | (refine wpAny_ite_true (decide_eq_true c3) ?_; wp_walk using wpAny_loadPart' hl))
    exact ⟨_, rfl, h⟩
def rT01 (K : PySem.W.Frag) : R2 := fun x y H Q => ∃ l n xs, x = .ref l ∧ y = .int n ∧ SqT K H l xs ∧ xs ≠ [] ∧ ((n = 1 ∧ Q (.ref l) H) ∨ (n = 0 ∧ ∀ p, H p = none → Q (.ref p) (upd H p (.tup []))))
section
variable {G : Gx} {X : Cx} {K : PySem.W.Frag} {E : XK} {kk : Nat} {F H : Hp}
theorem op_t01 : OpR X (binaryOp .Mult) (rT01 X.K) := by
  intro pins s σ H x y v u Q I rx ry h
  obtain ⟨l, n, xs, rfl, rfl, hT, hne, h⟩ := h
  cases rx
  obtain ⟨tk, rfl⟩ := ry
  obtain ⟨its, r, ⟨⟨cls, dd, data, sl⟩, ho, hc, m, hd⟩, hs⟩ := I.tuple hT
  simp only at hc hd
  subst hc hd
  have emp : its.toArray.isEmpty = false := by
    cases its with
    | nil => cases r; exact (hne rfl).elim
    | cons a b => rfl
  rcases h with ⟨rfl, q⟩ | ⟨rfl, q⟩
  · refine wpAny_binaryOp_repeat_ref (T := "tuple") (U := "int") (by decide) ⟨_, ho, rfl⟩ (fun s' => PySem.typeIs_int s' 1 tk) noFill_tuple_mul PySem.F.fills_int_mul PySem.F.slot_int_rmul repeat_tuple PySem.F.slot_int_index.lookup
      (call_meets PySem.F.slot_int_rmul (PySem.typeIs_int s 1 tk) PySem.F.entry_int_rmul (PySem.F.args_int_rmul_2 _ _) (int_rmul_tuple 1 tk l its.toArray m dd sl)
        ⟨ho, rfl, ⟨_, ho, rfl⟩, call_meets PySem.F.slot_tuple_mul ⟨_, ho, rfl⟩ PySem.F.entry_tuple_mul (PySem.F.args_tuple_mul_2 _ _) (tup_mul1 l its.toArray m dd sl tk) ⟨ho, .ref l, H, I, rfl, q⟩⟩)
  · refine wpAny_binaryOp_repeat_ref (T := "tuple") (U := "int") (by decide) ⟨_, ho, rfl⟩ (fun s' => PySem.typeIs_int s' 0 tk) noFill_tuple_mul PySem.F.fills_int_mul PySem.F.slot_int_rmul repeat_tuple PySem.F.slot_int_index.lookup
      (call_meets PySem.F.slot_int_rmul (PySem.typeIs_int s 0 tk) PySem.F.entry_int_rmul (PySem.F.args_int_rmul_2 _ _) (int_rmul_tuple 0 tk l its.toArray m dd sl)
        ⟨ho, rfl, ⟨_, ho, rfl⟩, call_meets PySem.F.slot_tuple_mul ⟨_, ho, rfl⟩ PySem.F.entry_tuple_mul (PySem.F.args_tuple_mul_2 _ _) (tup_mul0 l its.toArray m dd sl tk emp) ⟨ho, ?_⟩⟩)
    exact ⟨.ref s.heap.objs.size, _, I.laid (t' := s.toks) (o := .tup []) (fun b ob z => Heap.get?_push_of_some _ z) (Nat.le_refl _) ⟨Nat.zero_le _, [], .nil, PyProof.Rows.IsTup.new _ _⟩, rfl, q _ (I.hok.fresh (Nat.le_refl _))⟩
def mulT1 : D → D → Option Sl
  | .tuple xs, .int n => if xs = [] then none else if n = 1 then some (.val (.tuple xs)) else if n = 0 then some (.val (.tuple [])) else none
  | _, _ => none
theorem v_t01 : Op2 G (rT01 G.K) mulT1 := fun F H d e x y Q s rx ry h => by
  cases d <;> cases e <;> first | exact h.elim | skip
  rename_i xs n
  simp only [mulT1] at h
  by_cases q : xs = []
  · rw [if_pos q] at h; exact h.elim
  rw [if_neg q] at h
  obtain ⟨a, ys, rfl, h1, r1⟩ := rx
  refine ⟨a, n, ys, rfl, ry, sqT_same s h1.sq, fun z => q (by subst z; cases r1; rfl), ?_⟩
  by_cases c : n = 1
  · rw [if_pos c] at h; exact .inl ⟨c, okS_val s h (.tup h1 r1)⟩
  · rw [if_neg c] at h
    by_cases c0 : n = 0
    · rw [if_pos c0] at h; exact .inr ⟨c0, fun p np => okS_tup s rfl h .nil np⟩
    · rw [if_neg c0] at h; exact h.elim
def mulB (d e : D) : Option Sl := (mulA d e).or (mulT1 d e)
theorem or_mulB (C : Cw X K E kk) : OpR X (binaryOp .Mult) (fun x y H Q => rMulA K x y H Q ∨ rT01 K x y H Q) := (or_mulA C).or (C.kq ▸ op_t01)
theorem v_mulB : Op2 G (fun x y H Q => rMulA G.K x y H Q ∨ rT01 G.K x y H Q) mulB := v_mulA.or v_t01
end
end Fr
namespace Fr
open PySem L2
/-! ### x in T, T a tuple of texts of the module -/
/-! ### l.extend(m) -/
/-! ### the end of Schema.__init__ as a block -/
section
variable {E : XK} {X : Cx} {K : PySem.W.Frag} {cl : Str → Addr} {np : Nat} {kk : Nat} {tg iter : Expr} {wi : TI} {g : TG} {mg : Tgm} {rs : List Stmt} {x n t : Str}
theorem sb_spots {c : Str} (iS iT iA iN iC iK : Nat) {pa pb pc pd pe pf pg ph pi pj pk pl pm pn po pp : Pos} (C : Cw X K E kk) (hc : Cls K (cl c)) (hno : NoAttr K (cl c) "spots") (hp : PassesOwn (model X.prog X.w) X.A X.env X.xe)
    (hI : SI X K cl E tg iter wi (iE (aCons (mVar iT) aNil))) (hG : SG X K cl np [iA, iN, iC, iK] tg g (gT 2 (gsCons (gN np iA) (gsCons (gT 3 (gsCons (gN np iN) (gsCons (gN np iC) (gsCons (gN np iK) gsNil)))) gsNil))))
    (hs : iS ∉ [iA, iN, iC, iK] := by decide) (hnp : np ≤ iA ∧ np ≤ iN ∧ np ≤ iC ∧ np ≤ iK := by decide) (hdd : iA ≠ iN ∧ iA ≠ iC ∧ iA ≠ iK ∧ iN ≠ iC ∧ iN ≠ iK ∧ iC ≠ iK := by decide)
    (hS : X.N[iS]? = some x := by rfl) (hSv : Vis X.env.scope x := by first | exact Or.inl rfl | exact Or.inr (Or.inl rfl) | exact Or.inr (Or.inr rfl)) (hSd : (x == ("__debug__" : Str)) = false := by decide) (hSc : (x == ("__classdict__" : Str)) = false := by decide)
    (hN : X.N[iN]? = some n := by rfl) (hNv : Vis X.env.scope n := by first | exact Or.inl rfl | exact Or.inr (Or.inl rfl) | exact Or.inr (Or.inr rfl)) (hNd : (n == ("__debug__" : Str)) = false := by decide) (hNc : (n == ("__classdict__" : Str)) = false := by decide)
    (hA : X.N[iA]? = some t := by rfl) (hAv : Vis X.env.scope t := by first | exact Or.inl rfl | exact Or.inr (Or.inl rfl) | exact Or.inr (Or.inr rfl)) (hAd : (t == ("__debug__" : Str)) = false := by decide) (hAc : (t == ("__classdict__" : Str)) = false := by decide)
    (h1 : swapsWith (.Dict [] [] pc) (some (.Attribute (.Name x pa) "spots" pb)) pd.line X.env = pure false := by rfl) (h2 : ∀ x, foldedSetIterable iter X.env x = pure x := by intro _; rfl)
    (h3 : attributeBase (.Name x ph) "spots" X.env (eval (.Name x ph) X.env) = eval (.Name x ph) X.env := by rfl) (h4 : attributeBase (.Name x pk) "spots" X.env (eval (.Name x pk) X.env) = eval (.Name x pk) X.env := by rfl)
    (h5 : swapsWith (.Name t po) (some (.Subscript (.Attribute (.Name x pk) "spots" pl) (.Name n pm) pn)) pp.line X.env = pure false := by rfl) (h6 : behindInMarks .In (.Attribute (.Name x ph) "spots" pi) = false := by rfl) :
    SB X K cl E np [.Assign [.Attribute (.Name x pa) "spots" pb] (.Dict [] [] pc) pd, .For tg iter [.If (.Compare (.Name n pg) [.In] [.Attribute (.Name x ph) "spots" pi] pj) rs [] pf, .Assign [.Subscript (.Attribute (.Name x pk) "spots" pl) (.Name n pm) pn] (.Name t po) pp] [] pe]
      (tSeq (sFld K (tVar iS) tDNewK "spots") (tFor wi g (tSeq (tIfS (tTest (tOp (fun x y H Q => rInA K x y H Q ∨ rInK x y H Q) (tVar iN) (tFld K (tVar iS) "spots"))) (fun _ _ _ => False) tNext) (sDPut (tFld K (tVar iS) "spots") (tVar iN) (tVar iA))))) (mSpots c iS iT iA iN iC iK) := by
  have ri := r_inA C
  have u1 : X.A.units + 1 < cLine := by have := C.u64; omega
  obtain ⟨kq, _, _, calm, _⟩ := C
  subst kq
  refine ⟨pss_cons (ps_fld (pe_var hS hSv hSd hSc) pe_dnewK h1) (pss_one (ps_for hp calm hI.1 hG.1 (pss_cons (ps_if (pt_cmpR ri (pe_var hN hNv hNd hNc) (pe_fld (pe_var hS hSv hSd hSc) h3) h6) ⟨fun _ _ _ _ _ _ h => h.elim⟩ pss_nil) (pss_one (ps_dput u1 (pe_fld (pe_var hS hSv hSd hSc) h4) (pe_var hN hNv hNd hNc) (pe_var hA hAv hAd hAc) h5))) h2)), ?_⟩
  exact ms_spots (G := ⟨X.K, cl⟩) hc hno hI.2 hG.2 rfl hs hnp hdd fun _ _ _ _ h => .inr h
end
end Fr
namespace Fr
open PySem L2
end Fr
namespace Fr
open PySem L2
end Fr
namespace Fr
open PySem L2
section
variable {G : Gx} {E : XK} {X : Cx} {K : PySem.W.Frag} {cl : Str → Addr} {A : An} {np : Nat} {vs : List Nat} {ta tb tc : TE} {ma mb mc : EV → Out (Rv × EV)} {a b c e : Expr} {pos : Pos} {F H F' H' : Hp} {ρ ρ' : EV} {σ σ' : St} {kk : Nat}
/-! ### a, b, c = x, y, z -/
/-! the same by a tuple that is made and forgotten (some names are cells) -/
theorem Kp.beside {N : Addr → Prop} {r : Rv} {v : V} {T : Addr} {o : HO} (n : H T = none) (h : Kp G A F H ρ σ N r v) : Kp G A F (upd H T o) ρ σ N r v := by
  cases r with
  | val d => exact h
  | ref i => trivial
  | own d =>
    obtain ⟨a, h1, h2, h4, h5⟩ := h
    refine ⟨a, h1, h2, h4.at (upd_ne ?_), h5⟩
    obtain ⟨x, hx⟩ := h4.there
    rintro rfl
    rw [n] at hx; cases hx
end
end Fr
namespace Fr
open PySem L2 PySem.Spec
/-! ### {k: v for ..}: the dict may have tuples as keys; what is stored is told by DPut -/
end Fr
namespace Fr
open PySem L2
end Fr
namespace Fr
open PySem L2 PySem.Spec
section
variable {G : Gx} {X : Cx} {K : PySem.W.Frag} {cl : Str → Addr} {E : XK} {kk : Nat} {F H F' H' : Hp}
/-! ### tuples that stand in the heap are frozen -/
theorem R.key {k : Key} : R G F (kD k) (kV k) := by
  cases k with
  | inl i => exact .int i
  | inr x => exact .str x
theorem Rs.keys : ∀ {ks : List Key}, Rs G F (ks.map kD) (ks.map kV)
  | [] => .nil
  | _ :: _ => .cons R.key Rs.keys
/-! ### len(d), list(d) -/
/-- a dict with numbers or texts as keys has no mark -/
theorem RK.plain {es : List (D × D)} {kvs : List (Key × V)} {β : Type} {a b : (List (D × D)) → β} {z : β} (h : RK G F es kvs) (f : D → β) (f1 : ∀ k d r, f (.dict ((kD k, d) :: r)) = b ((kD k, d) :: r)) (f0 : f (.dict []) = b []) : f (.dict es) = b es := by
  cases h with
  | nil => exact f0
  | @cons k d v es vs _ _ => exact f1 k d es
/-! ### sorted(d), by its keys -/
/-! the same names for sequences and dicts -/
end
end Fr
namespace Fr
open PySem L2
end Fr
namespace Fr
open PySem
end Fr
namespace Fr
open PySem L2
section
variable {G : Gx} {X : Cx} {K : PySem.W.Frag} {cl : Str → Addr} {E : XK} {kk : Nat} {F H F' H' : Hp} {σ : L2.St} {pins : List (Addr × Obj)} {s : Shared} {pos px py : Pos}
/-! ### {**x, **y}, keys that are tuples of numbers -/
def mergeT (kvs more : List (List Key × V)) : List (List Key × V) := more.foldl (fun acc kv => putK acc kv.1 kv.2) kvs
/-! by data -/
def putTp (acc : List (D × D)) (p : D × D) : List (D × D) := match keyT p.1 with
  | some k => putT acc k p.2
  | none => acc
def mergeTD (es more : List (D × D)) : List (D × D) := more.foldl putTp es
theorem RT.merge : ∀ {more : List (D × D)} {mv : List (List Key × V)} {es : List (D × D)} {vs : List (List Key × V)}, RT G F more mv → RT G F es vs → RT G F (mergeTD es more) (mergeT vs mv)
  | _, _, _, _, .nil, h => h
  | _, _, _, _, .cons (k := k) (d := d) r t, h => by
    simp only [mergeTD, mergeT, List.foldl_cons]
    refine RT.merge t ?_
    simp only [putTp, keyT, keysOf_kD]
    exact h.put k r
end
end Fr
namespace Fr
open PySem L2
end Fr
namespace Fr
open PySem L2
end Fr
namespace Fr
open PySem L2
section
variable {G : Gx} {E : XK} {X : Cx} {K : PySem.W.Frag} {cl : Str → Addr} {np : Nat} {vs vs1 : List Nat} {te : TE} {me : EV → Out (Rv × EV)} {e : Expr} {pos : Pos} {F H F' H' : Hp} {ρ ρ' : EV} {σ σ' : L2.St} {kk : Nat}
/-! ### [elt for tg in iter if .. for tg1 in iter1 if ..] -/
def lcIn (mg : Tgm) (vs : List Nat) (mt : EV → Out (Bool × EV)) (me : EV → Out (Rv × EV)) : List D → List D → EV → Out (List D × EV)
  | [], acc, ρ => .ok (acc, ρ)
  | d :: ds, acc, ρ => match mg d (wipeE ρ vs) with
    | none => .bad
    | some ρ4 => match mt ρ4 with
      | .ok (true, ρ5) => match fzO (me ρ5) with
        | .ok (.val y, ρ6) => if acc.length < sizeLine then lcIn mg vs mt me ds (acc ++ [y]) (back ρ vs ρ6) else .bad
        | _ => .bad
      | .ok (false, ρ5) => lcIn mg vs mt me ds acc (back ρ vs ρ5)
      | _ => .bad
def lc2Go (mg : Tgm) (vs : List Nat) (mt : EV → Out (Bool × EV)) (inn : EV → List D → Out (List D × EV)) : List D → List D → EV → Out (Rv × EV)
  | [], acc, ρ => .ok (.own (.list acc), ρ)
  | d :: ds, acc, ρ => match mg d (wipeE ρ vs) with
    | none => .bad
    | some ρ4 => match mt ρ4 with
      | .ok (true, ρ5) => match inn ρ5 acc with
        | .ok (acc2, ρ6) => lc2Go mg vs mt inn ds acc2 (back ρ vs ρ6)
        | _ => .bad
      | .ok (false, ρ5) => lc2Go mg vs mt inn ds acc (back ρ vs ρ5)
      | _ => .bad
def mIn (mi1 : EV → Out (List D × EV)) (mg1 : Tgm) (vs1 : List Nat) (mt1 : EV → Out (Bool × EV)) (me : EV → Out (Rv × EV)) : EV → List D → Out (List D × EV) := fun ρ acc => match mi1 ρ with
  | .ok (ds, ρ1) => lcIn mg1 vs1 mt1 me ds acc ρ1
  | _ => .bad
def mLc2 (mi : EV → Out (List D × EV)) (mg : Tgm) (vs : List Nat) (mt : EV → Out (Bool × EV)) (inn : EV → List D → Out (List D × EV)) : EV → Out (Rv × EV) := fun ρ => (mi ρ).bind fun x => lc2Go mg vs mt inn x.1 [] x.2
/-! a list that only the comprehension knows is hidden -/
def hid (H : Hp) (a : Addr) : Hp := fun b => if b = a then none else H b
theorem hid_ne {H : Hp} {a b : Addr} (h : b ≠ a) : hid H a b = H b := if_neg h
theorem hid_some {H : Hp} {a b : Addr} {o : HO} (h : hid H a b = some o) : b ≠ a ∧ H b = some o := by
  unfold hid at h
  by_cases z : b = a
  · rw [if_pos z] at h; cases h
  · rw [if_neg z] at h; exact ⟨z, h⟩
theorem hid_same {a : Addr} (s : Same F H) (f : F a = none) : Same F (hid H a) := fun b o e => by
  have z : b ≠ a := fun z => by rw [z, f] at e; cases e
  rw [hid_ne z]; exact s b o e
theorem hid_sub {a : Addr} : Same (hid H a) H := fun b o e => (hid_some e).2
theorem EnvR.hid {a : Addr} (e : EnvR G F H ρ σ) (f : F a = none) (w : ∀ i, ¬ Ow ρ σ i a) : EnvR G F (hid H a) ρ σ :=
  ⟨hid_same e.same f, e.len, e.val, fun i d q => by
    obtain ⟨b, k1, k2, k3⟩ := e.own i d q
    have z : b ≠ a := fun z => w i ⟨⟨d, q⟩, z ▸ k1⟩
    exact ⟨b, k1, k2, k3.at (hid_ne z)⟩, e.ne⟩
theorem EnvR.unh {a : Addr} (e : EnvR G F (Fr.hid H a) ρ σ) : EnvR G F H ρ σ :=
  ⟨e.same.trans hid_sub, e.len, e.val, fun i d q => by
    obtain ⟨b, k1, k2, k3⟩ := e.own i d q
    obtain ⟨o, ho⟩ := k3.there
    exact ⟨b, k1, k2, k3.at (hid_ne (hid_some ho).1).symm⟩, e.ne⟩
theorem Stp.hid {a : Addr} (t : Stp G F H ρ F' H' ρ' σ) (f : F' a = Option.none) (w : ∀ i, ¬ Ow ρ σ i a) : Stp G F (hid H a) ρ F' (hid H' a) ρ' σ where
  fr := t.fr
  env := t.env.hid f fun i q => w i ((t.ow i).mp q)
  new := fun b o e => (t.new b o e).imp id fun q => q.back hid_sub
  keep := fun b o e q => by
    obtain ⟨z, e⟩ := hid_some e
    rw [hid_ne z]; exact t.keep b o e q
  mode := t.mode
theorem Stp.unh {a : Addr} (t : Stp G F H ρ F' (Fr.hid H' a) ρ' σ) : Stp G F H ρ F' H' ρ' σ where
  fr := t.fr
  env := t.env.unh
  new := t.new
  keep := fun b o e q => (hid_some (t.keep b o e q)).2
  mode := t.mode
/-- the target's list may be any -/
theorem Stp.tgt {a : Addr} (t : Stp G F H ρ F' H' ρ' σ) (n : H a = Option.none) (f : F' a = Option.none) (w : ∀ i, ¬ Ow ρ σ i a) : Stp G F H ρ F' (Fr.hid H' a) ρ' σ where
  fr := t.fr
  env := t.env.hid f fun i q => w i ((t.ow i).mp q)
  new := t.new
  keep := fun b o e q => by
    have z : b ≠ a := fun z => by rw [z, n] at e; cases e
    rw [hid_ne z]; exact t.keep b o e q
  mode := t.mode
theorem Grow.hid {a : Addr} (g : Grow F H F' H') (f : F' a = none) : Grow F (Fr.hid H a) F' (Fr.hid H' a) where
  fr := g.fr
  sub := hid_same g.sub f
  new := fun b o e => (g.new b o e).imp id fun q => q.back hid_sub
  keep := fun b o e => by
    obtain ⟨z, e⟩ := hid_some e
    rw [hid_ne z]; exact g.keep b o e
theorem hid_upd {a : Addr} {o : HO} : hid (upd H a o) a = hid H a := by
  funext b
  unfold hid
  by_cases z : b = a
  · rw [if_pos z, if_pos z]
  · rw [if_neg z, if_neg z, upd_ne z]
theorem free_of {a : Addr} {o : HO} {xs : List V} (t : Stp G F H ρ F' H' ρ' σ) (f : F a = none) (h : H a = some (.lst xs)) : F' a = none := by
  cases y : F' a with
  | none => rfl
  | some z =>
    rcases t.new _ z y with u | u
    · rw [f] at u; cases u
    · exact (u.ne h nofun).elim
theorem free_gr {a : Addr} {xs : List V} (g : Grow F H F' H') (f : F a = none) (h : H a = some (.lst xs)) : F' a = none := by
  cases y : F' a with
  | none => rfl
  | some z =>
    rcases g.new _ z y with u | u
    · rw [f] at u; cases u
    · exact (u.ne h nofun).elim
theorem no_ow {a : Addr} {F3 : Hp} {ρ4 : EV} {σ4 : L2.St} (st : Sets G F3 0 vs (wipeE ρ vs) (wipe σ vs) ρ4 σ4) (w : ∀ i, ¬ Ow ρ σ i a) : ∀ i, ¬ Ow ρ4 σ4 i a := by
  rintro j ⟨⟨y, q1⟩, q2⟩
  by_cases hj : j ∈ vs
  · exact st.noOwn (fun i hi d => wipeE_in hi) j hj y q1
  · obtain ⟨k1, k2⟩ := st.out hj
    exact w j ⟨⟨y, by rw [← wipeE_out hj, ← k1]; exact q1⟩, by rw [← wipe_out hj, ← k2]; exact q2⟩
/-- one turn of a block, the list hidden -/
theorem blk_hid {a : Addr} {F3 H3 F5 H5 : Hp} {ρ4 ρ5 : EV} {σ4 : L2.St} (e : EnvR G F H ρ σ) (gr : Grow F H F3 H3) (st : Sets G F3 0 vs (wipeE ρ vs) (wipe σ vs) ρ4 σ4) (t : Stp G F3 (hid H3 a) ρ4 F5 (hid H5 a) ρ5 σ4) (f : F a = none) (f3 : F3 a = none) (w : ∀ i, ¬ Ow ρ σ i a) : Stp G F (hid H a) ρ F5 (hid H5 a) (back ρ vs ρ5) σ :=
  blk_back (e.hid f w) (gr.hid f3) st t
/-- the second source's loop -/
theorem in_loop {okc : Rv × EV → Prop} {exc : Str → List (D × D) → EV → Prop} {fin : Out (List D × EV) → Out (Rv × EV)} (hfin : ∀ o, PostG okc exc (fin o) → ∃ x, o = .ok x) {Dn : Addr} {F3 H3 F6 H6 : Hp} {ρ4 ρ6 : EV} {σ4 : L2.St} {g1 : TG} {mg1 : Tgm} {tt1 : TT} {mt1 : EV → Out (Bool × EV)} {J1 : It} {ds1 acc : List D} {av : List V} {Nx : Hp → Prop}
    (hg1 : MdG G 0 vs1 g1 mg1) (ht1 : MdT G E0 tt1 mt1) (he : Md G E0 te me) (t6 : Stp G F3 (hid H3 Dn) ρ4 F6 (hid H6 Dn) ρ6 σ4) (f6 : F6 Dn = none) (h6 : H6 Dn = some (.lst av)) (r6 : Rs G F6 acc av) (it1 : ItR G F6 J1 ds1) (w4 : ∀ i, ¬ Ow ρ4 σ4 i Dn)
    (p : PostG okc exc (fin (lcIn mg1 vs1 mt1 me ds1 acc ρ6)))
    (nx : ∀ Fx Hx ρx accx avx, Stp G F3 (hid H3 Dn) ρ4 Fx (hid Hx Dn) ρx σ4 → Fx Dn = none → Hx Dn = some (.lst avx) → Rs G Fx accx avx → PostG okc exc (fin (.ok (accx, ρx))) → Nx Hx) :
    ∃ W1 : Nat → Nat → Hp → Prop, (∃ m, W1 0 m H6) ∧ ∀ j k H, W1 j k H →
      (J1.stop j H ∧ Nx H) ∨ (J1.go j H ∧ ∃ Nx1 : Hp → Prop, (∀ H', Nx1 H' → ∃ k', k' < k ∧ W1 (j + 1) k' H') ∧ ∀ x H', J1.yld j H x H' → g1 x (wipe σ4 vs1) H' fun σ3 H5 => wipe σ3 vs1 = wipe σ4 vs1 ∧ tt1 σ3 H5 fun b H6 =>
        if b = true then te σ3 H6 fun y H7 => ∃ acc, H7 Dn = some (.lst acc) ∧ acc.length < sizeLine ∧ Nx1 (upd H7 Dn (.lst (acc ++ [y]))) else Nx1 H6) := by
  refine ⟨fun j k Hx => ∃ Fx ρx accx avx, Stp G F3 (hid H3 Dn) ρ4 Fx (hid Hx Dn) ρx σ4 ∧ Same F6 Fx ∧ Same Fx Hx ∧ Fx Dn = none ∧ Hx Dn = some (.lst avx) ∧ Rs G Fx accx avx ∧ PostG okc exc (fin (lcIn mg1 vs1 mt1 me (ds1.drop j) accx ρx)) ∧ k = ds1.length - j,
    ⟨_, F6, ρ6, acc, av, t6, .refl _, t6.env.same.trans hid_sub, f6, h6, r6, by simpa using p, rfl⟩, ?_⟩
  rintro i k H2 ⟨F2, ρ2, acc, av, t2, s2, m2, f2, h2, r2, p2, rfl⟩
  have e2 : EnvR G F2 H2 ρ2 σ4 := t2.env.unh
  have w2 : ∀ i, ¬ Ow ρ2 σ4 i Dn := fun i w => w4 i ((t2.ow i).mp w)
  obtain ⟨i1, i2⟩ := it1 F2 H2 s2 m2
  by_cases hl : i < ds1.length
  · right
    obtain ⟨d, hd⟩ : ∃ d, ds1[i]? = some d := ⟨_, List.getElem?_eq_getElem hl⟩
    obtain ⟨go, yl⟩ := i1 i d hd
    refine ⟨go, fun Hx => ∃ Fx ρx accx avx, Stp G F3 (hid H3 Dn) ρ4 Fx (hid Hx Dn) ρx σ4 ∧ Same F6 Fx ∧ Same Fx Hx ∧ Fx Dn = none ∧ Hx Dn = some (.lst avx) ∧ Rs G Fx accx avx ∧ PostG okc exc (fin (lcIn mg1 vs1 mt1 me (ds1.drop (i + 1)) accx ρx)), ?_, ?_⟩
    · rintro Hx ⟨Fx, ρx, accx, avx, a1, a2, a3, a4, a5, a6, a7⟩
      exact ⟨ds1.length - (i + 1), by omega, Fx, ρx, accx, avx, a1, a2, a3, a4, a5, a6, a7, rfl⟩
    · intro x Hy hy
      obtain ⟨Fy, gr, rx⟩ := yl x Hy hy
      have dr : ds1.drop i = d :: ds1.drop (i + 1) := by
        rw [List.drop_eq_getElem_cons hl]
        congr
        rw [List.getElem?_eq_getElem hl] at hd
        exact Option.some.inj hd
      rw [dr] at p2
      have bad : ∀ {P : Prop}, PostG okc exc (fin .bad) → P := fun {P} q => by obtain ⟨_, z⟩ := hfin _ q; cases z
      simp only [lcIn] at p2
      cases q : mg1 d (wipeE ρ2 vs1) with
      | none => rw [q] at p2; exact bad p2
      | some ρ7 =>
        rw [q] at p2
        dsimp only at p2
        refine hg1 Fy Hy (wipeE ρ2 vs1) (wipe σ4 vs1) (wipeE ρ2 vs1) (wipe σ4 vs1) d x _ gr.sub .refl rx ⟨ρ7, q, fun σ7 st7 => ?_⟩
        have e7 := st7.env ((e2.grow gr).wipe vs1)
        refine ⟨by rw [st7.wipe]; exact wipe_wipe fun _ h => h, ?_⟩
        have w7 := no_ow st7 w2
        have hy3 : Hy Dn = some (.lst av) := gr.keep _ _ h2
        have fy : Fy Dn = none := free_gr gr f2 h2
        refine ht1 Fy Hy ρ7 σ7 _ e7 ?_
        revert p2
        cases mt1 ρ7 with
        | bad => exact fun q => bad q
        | ex c f ρ' => exact fun q => bad q
        | ok y =>
          obtain ⟨b, ρ8⟩ := y
          cases b with
          | false =>
            intro p2 F8 H8 t8
            have f8 : F8 Dn = none := free_of (o := .lst av) t8 fy hy3
            have tb := blk_hid e2 gr st7 (t8.hid f8 w7) f2 fy w2
            exact iteF ⟨F8, _, acc, av, t2.trans tb, (s2.trans gr.fr).trans t8.fr, t8.env.same, f8, t8.keep _ _ hy3 w7, (r2.mono gr.fr).mono t8.fr, p2⟩
          | true =>
            intro p2 F8 H8 t8
            dsimp only at p2
            refine iteT (he.fz F8 H8 ρ8 σ7 _ t8.env ?_)
            revert p2
            dsimp only
            cases fzO (me ρ8) with
            | bad => exact fun q => bad q
            | ex c f ρ' => exact fun q => bad q
            | ok y =>
              obtain ⟨r, ρ9⟩ := y
              cases r with
              | own d => exact fun q => bad q
              | ref i => exact fun q => bad q
              | val y =>
                dsimp only
                by_cases hz : acc.length < sizeLine
                · rw [if_pos hz]
                  intro p2 F9 H9 v t9 rv
                  have t89 := t8.trans t9
                  have h9 : H9 Dn = some (.lst av) := t89.keep _ _ hy3 w7
                  have f9 : F9 Dn = none := free_of (o := .lst av) t89 fy hy3
                  have tb := blk_hid e2 gr st7 (t89.hid f9 w7) f2 fy w2
                  refine ⟨av, h9, by rw [r2.length]; exact hz, F9, _, acc ++ [y], av ++ [v], ?_, (s2.trans gr.fr).trans t89.fr, ?_, f9, upd_same, (((r2.mono gr.fr).mono t89.fr).append (.cons rv .nil)), p2⟩
                  · rw [hid_upd]; exact t2.trans tb
                  · intro b o e
                    have z : b ≠ Dn := fun z => by rw [z, f9] at e; cases e
                    rw [upd_ne z]; exact t89.env.same b o e
                · rw [if_neg hz]; exact fun q => bad q
  · left
    refine ⟨i2 i (by omega), ?_⟩
    rw [List.drop_eq_nil_of_le (by omega)] at p2
    exact nx F2 H2 ρ2 acc av t2 f2 h2 r2 p2
theorem md_lc2 {wi wi1 : TI} {mi mi1 : EV → Out (List D × EV)} {g g1 : TG} {mg mg1 : Tgm} {tt tt1 : TT} {mt mt1 : EV → Out (Bool × EV)} (hi : MdI G E wi mi) (hg : MdG G 0 vs g mg) (ht : MdT G E0 tt mt) (hi1 : MdI G E0 wi1 mi1) (hg1 : MdG G 0 vs1 g1 mg1) (ht1 : MdT G E0 tt1 mt1) (he : Md G E0 te me) :
    Md G E (tLc2 wi g tt wi1 g1 tt1 te vs vs1) (mLc2 mi mg vs mt (mIn mi1 mg1 vs1 mt1 me)) := fun F H ρ σ Q en p => by
  refine hi.then en p fun F1 H1 ρ1 ds J s1 it p1 => ?_
  intro Dn n1
  have f1 : F1 Dn = none := s1.env.same.free n1
  have nw : ∀ i, ¬ Ow ρ1 σ i Dn := fun i w => by obtain ⟨y, hy⟩ := s1.env.there w; rw [n1] at hy; cases hy
  refine ⟨fun i k H' => ∃ F' ρ' acc av, Stp G F1 H1 ρ1 F' (hid H' Dn) ρ' σ ∧ F' Dn = none ∧ H' Dn = some (.lst av) ∧ Rs G F' acc av ∧ PostG (Okc G F H σ ρ Q) (XC G E F1 H1 σ ρ1) (lc2Go mg vs mt (mIn mi1 mg1 vs1 mt1 me) (ds.drop i) acc ρ') ∧ k = ds.length - i,
    ⟨_, F1, ρ1, [], [], by rw [hid_upd]; exact (Stp.refl s1.env).tgt n1 f1 nw, f1, upd_same, .nil, by simpa using p1, rfl⟩, ?_⟩
  rintro i k H2 ⟨F2, ρ2, acc, av, t2, f2, h2, r2, p2, rfl⟩
  have e2 : EnvR G F2 H2 ρ2 σ := t2.env.unh
  have w2 : ∀ i, ¬ Ow ρ2 σ i Dn := fun i w => nw i ((t2.ow i).mp w)
  obtain ⟨i1, i2⟩ := it F2 H2 t2.fr e2.same
  by_cases hl : i < ds.length
  · right
    obtain ⟨d, hd⟩ : ∃ d, ds[i]? = some d := ⟨_, List.getElem?_eq_getElem hl⟩
    obtain ⟨go, yl⟩ := i1 i d hd
    refine ⟨go, fun H' => ∃ F' ρ' acc av, Stp G F1 H1 ρ1 F' (hid H' Dn) ρ' σ ∧ F' Dn = none ∧ H' Dn = some (.lst av) ∧ Rs G F' acc av ∧ PostG (Okc G F H σ ρ Q) (XC G E F1 H1 σ ρ1) (lc2Go mg vs mt (mIn mi1 mg1 vs1 mt1 me) (ds.drop (i + 1)) acc ρ'), ?_, ?_⟩
    · rintro H' ⟨F3, ρ3, acc3, av3, a1, a2, a3, a4, a5⟩
      exact ⟨ds.length - (i + 1), by omega, F3, ρ3, acc3, av3, a1, a2, a3, a4, a5, rfl⟩
    · intro x H3 hy
      obtain ⟨F3, gr, rx⟩ := yl x H3 hy
      have dr : ds.drop i = d :: ds.drop (i + 1) := by
        rw [List.drop_eq_getElem_cons hl]
        congr
        rw [List.getElem?_eq_getElem hl] at hd
        exact Option.some.inj hd
      rw [dr] at p2
      simp only [lc2Go] at p2
      cases q : mg d (wipeE ρ2 vs) with
      | none => rw [q] at p2; exact p2.elim
      | some ρ4 =>
        rw [q] at p2
        dsimp only at p2
        refine hg F3 H3 (wipeE ρ2 vs) (wipe σ vs) (wipeE ρ2 vs) (wipe σ vs) d x _ gr.sub .refl rx ⟨ρ4, q, fun σ4 st4 => ?_⟩
        have e4 := st4.env ((e2.grow gr).wipe vs)
        refine ⟨by rw [st4.wipe]; exact wipe_wipe fun _ h => h, ?_⟩
        have w4 := no_ow st4 w2
        have h3 : H3 Dn = some (.lst av) := gr.keep _ _ h2
        have f3 : F3 Dn = none := free_gr gr f2 h2
        refine ht F3 H3 ρ4 σ4 _ e4 ?_
        revert p2
        cases mt ρ4 with
        | bad => exact False.elim
        | ex c f ρ' => exact False.elim
        | ok y =>
          obtain ⟨b, ρ5⟩ := y
          cases b with
          | false =>
            intro p2 F5 H5 t5
            have f5 : F5 Dn = none := free_of (o := .lst av) t5 f3 h3
            have tb := blk_hid e2 gr st4 (t5.hid f5 w4) f2 f3 w2
            exact iteF ⟨F5, _, acc, av, t2.trans tb, f5, t5.keep _ _ h3 w4, (r2.mono gr.fr).mono t5.fr, p2⟩
          | true =>
            intro p2 F5 H5 t5
            dsimp only at p2
            refine iteT (hi1 F5 H5 ρ5 σ4 _ t5.env ?_)
            revert p2
            unfold mIn
            dsimp only
            cases mi1 ρ5 with
            | bad => exact False.elim
            | ex c f ρ' => exact False.elim
            | ok y =>
              obtain ⟨ds1, ρ6⟩ := y
              intro p2 F6 H6 J1 t6 it1
              have t56 := t5.trans t6
              have h6 : H6 Dn = some (.lst av) := t56.keep _ _ h3 w4
              have f6 : F6 Dn = none := free_of (o := .lst av) t56 f3 h3
              refine in_loop (fin := fun o => match o with | .ok (acc2, ρ6) => lc2Go mg vs mt (mIn mi1 mg1 vs1 mt1 me) (ds.drop (i + 1)) acc2 (back ρ2 vs ρ6) | _ => .bad) (okc := Okc G F H σ ρ Q) (exc := XC G E F1 H1 σ ρ1) (fun o po => ?_) hg1 ht1 he (t56.hid f6 w4) f6 h6 (((r2.mono gr.fr).mono t56.fr)) it1 w4 p2 ?_
              · cases o with
                | ok x => exact ⟨x, rfl⟩
                | ex c f ρ' => exact po.elim
                | bad => exact po.elim
              · intro Fx Hx ρx accx avx tx fx hx rx px
                have tb := blk_hid e2 gr st4 tx f2 f3 w2
                exact ⟨Fx, _, accx, avx, t2.trans tb, fx, hx, rx, px⟩
  · left
    refine ⟨i2 i (by omega), ?_⟩
    rw [List.drop_eq_nil_of_le (by omega)] at p2
    simp only [lc2Go] at p2
    exact p2 F2 H2 _ (s1.trans t2.unh) ⟨Dn, rfl, f2, s1.none en n1, av, h2, r2⟩
theorem ss_setLc2V {elt tg iter tg1 iter1 : Expr} {ifs ifs1 : List Expr} {scope : Scope} {spos : Pos} {wi wi1 : TI} {mi mi1 : EV → Out (List D × EV)} {g g1 : TG} {mg mg1 : Tgm} {tt tt1 : TT} {mt mt1 : EV → Out (Bool × EV)} (i : Nat) {y : Str} {py : Pos} (own : List (Str × Nat)) (vs1 : List Nat) (hv : ∀ i ∈ vs1, i ∈ own.map (·.2)) (hc : X.calm = true) (hN : X.N.Nodup)
    (hsw : swapsWith (.ListComp elt [⟨tg, iter, ifs, 0⟩, ⟨tg1, iter1, ifs1, 0⟩] scope pos) (some (.Name y py)) spos.line X.env = pure true) (hi : SI X K cl E tg iter wi mi) (ok : BlkOk X.N X.env.scope scope own)
    (hg : ∀ (s : Shared) (H : Hp) (C : Addr) (c : List (Str × Addr)) (fp : List Addr), SG (X.blk s H scope (compEnvC scope c C X.env) fp) K cl 0 (own.map (·.2)) tg g mg) (ht : ∀ (s : Shared) (H : Hp) (C : Addr) (c : List (Str × Addr)) (fp : List Addr), SPs (X.blk s H scope (compEnvC scope c C X.env) fp) K cl E0 ifs tt mt)
    (hi1 : ∀ (s : Shared) (H : Hp) (C : Addr) (c : List (Str × Addr)) (fp : List Addr), SI (X.blk s H scope (compEnvC scope c C X.env) fp) K cl E0 tg1 iter1 wi1 mi1)
    (hg1 : ∀ (s : Shared) (H : Hp) (C : Addr) (c : List (Str × Addr)) (fp : List Addr), SG (X.blk s H scope (compEnvC scope c C X.env) fp) K cl 0 vs1 tg1 g1 mg1) (ht1 : ∀ (s : Shared) (H : Hp) (C : Addr) (c : List (Str × Addr)) (fp : List Addr), SPs (X.blk s H scope (compEnvC scope c C X.env) fp) K cl E0 ifs1 tt1 mt1)
    (he : ∀ (s : Shared) (H : Hp) (C : Addr) (c : List (Str × Addr)) (fp : List Addr), SE (X.blk s H scope (compEnvC scope c C X.env) fp) K cl E0 elt te me) (hy : X.N[i]? = some y := by rfl) (hyl : X.env.scope.names.lookup y = some .local := by rfl) (hs : ∀ x, foldedSetIterable iter X.env x = pure x := by intro _; rfl) (hs1 : ∀ env x, foldedSetIterable iter1 env x = pure x := by intro _ _; rfl) :
    SS X K cl E np (.Assign [.Name y py] (.ListComp elt [⟨tg, iter, ifs, 0⟩, ⟨tg1, iter1, ifs1, 0⟩] scope pos) spos) (tAsg (tLc2 wi g tt wi1 g1 tt1 te (own.map (·.2)) vs1) (gName i)) (sSetV np i (mLc2 mi mg (own.map (·.2)) mt (mIn mi1 mg1 vs1 mt1 me))) :=
  ⟨ps_setLc2 hc hN hy hyl hsw hi.1 ok hv (fun s H C c fp => (hg s H C c fp).1) (fun s H C c fp => (ht s H C c fp).1) (fun s H C c fp => (hi1 s H C c fp).1) (fun s H C c fp => (hg1 s H C c fp).1) (fun s H C c fp => (ht1 s H C c fp).1) (fun s H C c fp => (he s H C c fp).1) hs hs1,
    ms_setV (md_lc2 hi.2 (hg X.s_0 X.H_0 0 [] []).2 (ht X.s_0 X.H_0 0 [] []).2 (hi1 X.s_0 X.H_0 0 [] []).2 (hg1 X.s_0 X.H_0 0 [] []).2 (ht1 X.s_0 X.H_0 0 [] []).2 (he X.s_0 X.H_0 0 [] []).2)⟩
theorem ss_setLc2O {elt tg iter tg1 iter1 : Expr} {ifs ifs1 : List Expr} {scope : Scope} {spos : Pos} {wi wi1 : TI} {mi mi1 : EV → Out (List D × EV)} {g g1 : TG} {mg mg1 : Tgm} {tt tt1 : TT} {mt mt1 : EV → Out (Bool × EV)} (i : Nat) {y : Str} {py : Pos} (own : List (Str × Nat)) (vs1 : List Nat) (hv : ∀ i ∈ vs1, i ∈ own.map (·.2)) (hc : X.calm = true) (hN : X.N.Nodup)
    (hsw : swapsWith (.ListComp elt [⟨tg, iter, ifs, 0⟩, ⟨tg1, iter1, ifs1, 0⟩] scope pos) (some (.Name y py)) spos.line X.env = pure true) (hi : SI X K cl E tg iter wi mi) (ok : BlkOk X.N X.env.scope scope own)
    (hg : ∀ (s : Shared) (H : Hp) (C : Addr) (c : List (Str × Addr)) (fp : List Addr), SG (X.blk s H scope (compEnvC scope c C X.env) fp) K cl 0 (own.map (·.2)) tg g mg) (ht : ∀ (s : Shared) (H : Hp) (C : Addr) (c : List (Str × Addr)) (fp : List Addr), SPs (X.blk s H scope (compEnvC scope c C X.env) fp) K cl E0 ifs tt mt)
    (hi1 : ∀ (s : Shared) (H : Hp) (C : Addr) (c : List (Str × Addr)) (fp : List Addr), SI (X.blk s H scope (compEnvC scope c C X.env) fp) K cl E0 tg1 iter1 wi1 mi1)
    (hg1 : ∀ (s : Shared) (H : Hp) (C : Addr) (c : List (Str × Addr)) (fp : List Addr), SG (X.blk s H scope (compEnvC scope c C X.env) fp) K cl 0 vs1 tg1 g1 mg1) (ht1 : ∀ (s : Shared) (H : Hp) (C : Addr) (c : List (Str × Addr)) (fp : List Addr), SPs (X.blk s H scope (compEnvC scope c C X.env) fp) K cl E0 ifs1 tt1 mt1)
    (he : ∀ (s : Shared) (H : Hp) (C : Addr) (c : List (Str × Addr)) (fp : List Addr), SE (X.blk s H scope (compEnvC scope c C X.env) fp) K cl E0 elt te me) (hy : X.N[i]? = some y := by rfl) (hyl : X.env.scope.names.lookup y = some .local := by rfl) (hs : ∀ x, foldedSetIterable iter X.env x = pure x := by intro _; rfl) (hs1 : ∀ env x, foldedSetIterable iter1 env x = pure x := by intro _ _; rfl) :
    SS X K cl E np (.Assign [.Name y py] (.ListComp elt [⟨tg, iter, ifs, 0⟩, ⟨tg1, iter1, ifs1, 0⟩] scope pos) spos) (tAsg (tLc2 wi g tt wi1 g1 tt1 te (own.map (·.2)) vs1) (gName i)) (sSetO np i (mLc2 mi mg (own.map (·.2)) mt (mIn mi1 mg1 vs1 mt1 me))) :=
  ⟨ps_setLc2 hc hN hy hyl hsw hi.1 ok hv (fun s H C c fp => (hg s H C c fp).1) (fun s H C c fp => (ht s H C c fp).1) (fun s H C c fp => (hi1 s H C c fp).1) (fun s H C c fp => (hg1 s H C c fp).1) (fun s H C c fp => (ht1 s H C c fp).1) (fun s H C c fp => (he s H C c fp).1) hs hs1,
    ms_setO (md_lc2 hi.2 (hg X.s_0 X.H_0 0 [] []).2 (ht X.s_0 X.H_0 0 [] []).2 (hi1 X.s_0 X.H_0 0 [] []).2 (hg1 X.s_0 X.H_0 0 [] []).2 (ht1 X.s_0 X.H_0 0 [] []).2 (he X.s_0 X.H_0 0 [] []).2)⟩
end
end Fr
namespace Fr
open PySem L2
/-! ### an owned list, lent to a call as a value: what comes back holds no list -/
end Fr
namespace Fr
open PySem L2
end Fr
namespace Fr
open PySem L2
section
variable {G : Gx} {X : Cx} {K : PySem.W.Frag} {cl : Str → Addr} {E : XK} {kk np : Nat} {A : An} {F H F' H' : Hp} {ρ ρ' : EV} {σ : L2.St} {te tk tk2 tv : TE} {me mk mk2 mv : EV → Out (Rv × EV)} {pos : Pos}
/-! ### x[a], x[b] = e, f of an owned list -/
/-! ### x.pop() -/
theorem Rs.dropLast : ∀ {ds : List D} {vs : List V}, Rs G F ds vs → Rs G F ds.dropLast vs.dropLast
  | _, _, .nil => .nil
  | _, _, .cons h .nil => .nil
  | _, _, .cons h (.cons h2 t) => .cons h (Rs.dropLast (.cons h2 t))
end
end Fr
namespace Fr
open PySem L2
/-! ### t[::-1] -/
end Fr
namespace Fr
open PySem L2
open AutoSeq1 (wpAny_loadPart')
/-! ### a dict in a tuple of texts: never -/
theorem kit_ty {K : PySem.W.Frag} {C : Addr} {T : String} {l : List Value} {x : Value} {b : Bool} (hm : PySem.W.mroIn K C x = some b) (ht : PySem.W.typeIn K (.ref C) = some (.type "type")) (hl : PySem.fastBuiltinMro T = some l) (hc : l.contains (.ref C) = false) : PySem.W.kitOne K (.type T) (.ref C) = some false := by
  have hs : (PySem.W.clsIn K C).isSome = true := by
    unfold PySem.W.mroIn at hm
    obtain ⟨cd, e, _⟩ := Option.bind_eq_some_iff.mp hm
    rw [e]; rfl
  unfold PySem.W.kitOne
  rw [if_neg (by simp)]
  show (if ((PySem.W.clsIn K C).isSome && PySem.W.typeIn K (.ref C) == some (.type "type")) = true then PySem.W.subIn K (.type T) (.ref C) else none) = _
  rw [hs, ht, if_pos (by simp)]
  unfold PySem.W.subIn
  dsimp only
  rw [hl, Option.map_some, hc]
end Fr
namespace Fr
open PySem L2
/-! ### list(zip(x, y)) -/
section
variable {prog : Program} {w : World} {A : Around} {E : Value → Shared → Prop} {s : Shared} {z TI TO i1 i2 T S : Addr} {fp1 fp2 : List Addr} {n1 n2 i : Nat} {P1 P2 : Nat → Value → Prop} {St1 St2 : Nat → Heap → Prop} {f : Bool} {oT : Obj}
/-- pairs at rising addresses -/
structure ZlG (P1 P2 : Nat → Value → Prop) (lo : Addr) (h : Heap) (as : List Addr) : Prop where
  rise : as.Pairwise (· < ·)
  above : ∀ a ∈ as, lo < a
  pairs : ∀ (j : Nat) (a : Addr), as[j]? = some a → ∃ x y, P1 j x ∧ P2 j y ∧ h.get? a = some { cls := .type "tuple", data := .seq #[x, y] }
theorem ZlG.there {lo : Addr} {h : Heap} {as : List Addr} (g : ZlG P1 P2 lo h as) {a : Addr} (ha : a ∈ as) : a < h.objs.size := by
  obtain ⟨j, hj⟩ := List.mem_iff_getElem?.mp ha
  obtain ⟨_, _, _, _, e⟩ := g.pairs j a hj
  exact Heap.lt_size e
end
end Fr
namespace Fr
open PySem L2
end Fr
namespace Fr
open PySem L2
end Fr
namespace Fr
open PySem L2
end Fr
namespace Fr
open PySem L2
/-! ### zip of lists and tuples in any mix, pairs of texts too -/
end Fr
namespace Fr
open PySem L2
/-! ### data with dicts inside: how it is read -/
mutual
inductive RdN (h : Heap) : Value → PyData → Prop
  | none : RdN h .none .none
  | bool (b : Bool) : RdN h (.bool b) (.bool b)
  | int (i : Int) (t : Tok) : RdN h (.int i t) (.int i)
  | str (x : Str) (t : Tok) : RdN h (.str x t) (.str x)
  | list {a : Addr} {o : Obj} {vs : Array Value} {n : Nat} {xs : List PyData} : h.get? a = some o → o.cls = .type "list" → o.data = .seq vs n → RdNs h vs.toList xs → RdN h (.ref a) (.list xs)
  | tuple {a : Addr} {o : Obj} {vs : Array Value} {n : Nat} {xs : List PyData} : h.get? a = some o → o.cls = .type "tuple" → o.data = .seq vs n → RdNs h vs.toList xs → RdN h (.ref a) (.tuple xs)
  | dict {a : Addr} {o : Obj} {es : Array DictEntry} {n : Nat} {kvs : List (PyData × PyData)} : h.get? a = some o → o.cls = .type "dict" → o.data = .dict es n → (a == sysModules) = false →
      RdNs h (es.toList.map (·.key)) (kvs.map (·.1)) → RdNs h (es.toList.map (·.val)) (kvs.map (·.2)) → RdN h (.ref a) (.dict kvs)
inductive RdNs (h : Heap) : List Value → List PyData → Prop
  | nil : RdNs h [] []
  | cons {v : Value} {vs : List Value} {d : PyData} {ds : List PyData} : RdN h v d → RdNs h vs ds → RdNs h (v :: vs) (d :: ds)
end
section
variable {prog : Program} {w : World} {h₀ : Heap}
mutual
theorem RdN.reads : ∀ {v : Value} {d : PyData}, RdN h₀ v d → ∃ as, Reads h₀ v d as
  | _, _, .none => ⟨_, .none⟩
  | _, _, .bool b => ⟨_, .bool b⟩
  | _, _, .int i t => ⟨_, .int i t⟩
  | _, _, .str x t => ⟨_, .str x t⟩
  | _, _, .list h1 h2 h3 h4 => let ⟨_, r⟩ := RdNs.reads h4; ⟨_, .list h1 h2 h3 r⟩
  | _, _, .tuple h1 h2 h3 h4 => let ⟨_, r⟩ := RdNs.reads h4; ⟨_, .tuple h1 h2 h3 r⟩
  | _, _, .dict h1 h2 h3 _ h4 h5 => let ⟨_, r⟩ := RdNs.reads h4; let ⟨_, r'⟩ := RdNs.reads h5; ⟨_, .dict h1 h2 h3 r r'⟩
theorem RdNs.reads : ∀ {vs : List Value} {ds : List PyData}, RdNs h₀ vs ds → ∃ as, ReadsAll h₀ vs ds as
  | _, _, .nil => ⟨_, .nil⟩
  | _, _, .cons h t => let ⟨_, r⟩ := RdN.reads h; let ⟨_, r'⟩ := RdNs.reads t; ⟨_, .cons r r'⟩
end
mutual
theorem RdN.reprK : ∀ {v : Value} {d : PyData}, RdN h₀ v d → d.showable = true → d.shown.length ≤ sizeLine → ∃ bs, ReadAtMost h₀ d.depth bs ∧ ReprK prog w bs h₀ d.depth v d.shown
  | _, _, .none, _, _ => ReprK.of_reads .none (by rfl) (fun z => by cases z) (by size_fits)
  | _, _, .bool b, hs, hz => ReprK.of_reads (.bool b) hs (fun z => by cases z) hz
  | _, _, .int i t, hs, hz => ReprK.of_reads (.int i t) hs (fun z => by cases z) hz
  | _, _, .str x t, hs, hz => ReprK.of_reads (.str x t) hs (fun z => by cases z) hz
  | _, _, .list (a := a) (vs := vs) (xs := xs) h1 h2 h3 h4, hs, hz => by
    have hz' : (listText (PyData.shownAll xs)).length ≤ sizeLine := by simpa only [PyData.shown] using hz
    obtain ⟨bs, hb, hk⟩ := RdNs.reprK h4 (by simpa [PyData.showable] using hs) (fun t ht => Nat.le_trans (listText_mem_le ht) hz')
    obtain ⟨as, r4⟩ := RdNs.reads h4
    have r : Reads h₀ (.ref a) (.list xs) _ := .list h1 h2 h3 r4
    have hna : a ∉ bs := not_mem_of_deeper r (by simp only [PyData.depth]; omega) hb
    refine ⟨a :: bs, ReadAtMost.cons r (by simp only [PyData.depth]; omega) hb, ?_⟩
    simp only [PyData.depth, PyData.shown]
    obtain ⟨l⟩ := vs
    cases l with
    | nil =>
      cases (show RdNs h₀ [] xs from h4)
      simp only [PyData.shownAll, listText_nil]
      exact ReprK.listEmpty h1 h2 h3
    | cons x l => exact ReprK.list h1 h2 h3 hna (by simpa using hk.length_eq) (fun i y e => hk.item i y (by simpa using e))
  | _, _, .tuple (a := a) (xs := xs) h1 h2 h3 h4, hs, hz => by
    have hz' : (tupleText (PyData.shownAll xs)).length ≤ sizeLine := by simpa only [PyData.shown] using hz
    obtain ⟨bs, hb, hk⟩ := RdNs.reprK h4 (by simpa [PyData.showable] using hs) (fun t ht => Nat.le_trans (tupleText_mem_le ht) hz')
    obtain ⟨as, r4⟩ := RdNs.reads h4
    have r : Reads h₀ (.ref a) (.tuple xs) _ := .tuple h1 h2 h3 r4
    have hna : a ∉ bs := not_mem_of_deeper r (by simp only [PyData.depth]; omega) hb
    refine ⟨a :: bs, ReadAtMost.cons r (by simp only [PyData.depth]; omega) hb, ?_⟩
    simp only [PyData.depth, PyData.shown]
    exact ReprK.tuple h1 h2 h3 hna hk
  | _, _, .dict (a := a) (es := es) (kvs := kvs) h1 h2 h3 hsys h4 h5, hs, hz => by
    have hz' : (dictText (PyData.shownKv kvs)).length ≤ sizeLine := by simpa only [PyData.shown] using hz
    obtain ⟨hs1, hs2⟩ := PyData.showableKv_split kvs (by simpa [PyData.showable] using hs)
    obtain ⟨b1, hb1, k1⟩ := RdNs.reprK h4 hs1 (fun t ht => let ⟨p, hp, hl⟩ := PyData.shownKv_key_le kvs t ht; Nat.le_trans hl (Nat.le_trans (dictText_mem_le hp) hz'))
    obtain ⟨b2, hb2, k2⟩ := RdNs.reprK h5 hs2 (fun t ht => let ⟨p, hp, hl⟩ := PyData.shownKv_val_le kvs t ht; Nat.le_trans hl (Nat.le_trans (dictText_mem_le hp) hz'))
    obtain ⟨as, r4⟩ := RdNs.reads h4
    obtain ⟨as', r5⟩ := RdNs.reads h5
    have r : Reads h₀ (.ref a) (.dict kvs) _ := .dict h1 h2 h3 r4 r5
    have hb : ReadAtMost h₀ (PyData.depthKv kvs) (b1 ++ b2) := (hb1.mono (PyData.depthAll_keys_le kvs)).append (hb2.mono (PyData.depthAll_vals_le kvs))
    have hna : a ∉ b1 ++ b2 := not_mem_of_deeper r (by simp only [PyData.depth]; omega) hb
    refine ⟨a :: (b1 ++ b2), ReadAtMost.cons r (by simp only [PyData.depth]; omega) hb, ?_⟩
    simp only [PyData.depth, PyData.shown, PyData.shownKv_eq]
    exact ReprK.dict h1 h2 h3 hsys hna (ReprEntriesK.of_two es.toList _ _
      (k1.more_le (fun b hb => List.mem_append_left _ hb) (PyData.depthAll_keys_le kvs)) (k2.more_le (fun b hb => List.mem_append_right _ hb) (PyData.depthAll_vals_le kvs)))
theorem RdNs.reprK : ∀ {vs : List Value} {ds : List PyData}, RdNs h₀ vs ds → PyData.showableAll ds = true → (∀ t ∈ PyData.shownAll ds, t.length ≤ sizeLine) →
    ∃ bs, ReadAtMost h₀ (PyData.depthAll ds) bs ∧ ReprAllK prog w bs h₀ (PyData.depthAll ds) vs (PyData.shownAll ds)
  | _, _, .nil, _, _ => ReprAllK.of_readsAll .nil rfl (fun z => by cases z) (fun t ht => by simp only [PyData.shownAll] at ht; cases ht)
  | _, _, .cons (d := d) (ds := ds) r rs, hs, hz => by
    have hs' : d.showable = true ∧ PyData.showableAll ds = true := by simpa [PyData.showableAll] using hs
    obtain ⟨b1, hb1, k1⟩ := RdN.reprK r hs'.1 (hz _ (by simp only [PyData.shownAll]; exact List.mem_cons_self ..))
    obtain ⟨b2, hb2, k2⟩ := RdNs.reprK rs hs'.2 (fun t ht => hz t (by simp only [PyData.shownAll]; exact List.mem_cons_of_mem _ ht))
    refine ⟨b1 ++ b2, ?_, ?_⟩
    · simp only [PyData.depthAll]
      exact (hb1.mono (Nat.le_max_left _ _)).append (hb2.mono (Nat.le_max_right _ _))
    · simp only [PyData.depthAll, PyData.shownAll]
      exact .cons ((k1.more fun b hb => List.mem_append_left _ hb).level_le (Nat.le_max_left _ _)) (k2.more_le (fun b hb => List.mem_append_right _ hb) (Nat.le_max_right _ _))
end
theorem RdN.shows {a : Addr} {d : PyData} (r : RdN h₀ (.ref a) d) (hs : d.showable = true) (hsz : d.shown.length ≤ sizeLine) : ∃ T idr, ShowsBy prog w h₀ a d T idr := by
  cases r with
  | list h1 h2 h3 h4 =>
    rename_i o vs n xs
    have hz' : (listText (PyData.shownAll xs)).length ≤ sizeLine := by simpa only [PyData.shown] using hsz
    obtain ⟨bs, hb, hk⟩ := RdNs.reprK (prog := prog) (w := w) h4 (by simpa [PyData.showable] using hs) (fun t ht => Nat.le_trans (listText_mem_le ht) hz')
    obtain ⟨as, r4⟩ := RdNs.reads h4
    have hna : a ∉ bs := not_mem_of_deeper (.list h1 h2 h3 r4) (by simp only [PyData.depth]; omega) hb
    refine ⟨"list", "list.__repr__", F.slot_list_repr.toG, F.slot_list_str, F.slot_list_format, fun s hk0 => ⟨o, hk0 _ _ h1, h2⟩, fun A E s Q hg hu hk0 hQ => ?_⟩
    simp only [PyData.depth] at hu
    simp only [PyData.shown] at hQ
    obtain ⟨l⟩ := vs
    cases l with
    | nil =>
      cases (show RdNs h₀ [] xs from h4)
      simp only [PyData.shownAll, listText_nil] at hQ
      exact call_list_repr_empty ⟨o, hk0 _ _ h1, h2⟩ (hk0 _ _ h1) h3 (hQ s.heap _ _ fun _ _ e => e)
    | cons x l =>
      exact call_list_reprK h1 h2 h3 hna (by simpa using hk.length_eq) (fun i y e => hk.item i y (by simpa using e)) hg (fun b _ => Clear.nil b) hu hk0 hQ hz'
  | tuple h1 h2 h3 h4 =>
    rename_i o vs n xs
    have hz' : (tupleText (PyData.shownAll xs)).length ≤ sizeLine := by simpa only [PyData.shown] using hsz
    obtain ⟨bs, hb, hk⟩ := RdNs.reprK (prog := prog) (w := w) h4 (by simpa [PyData.showable] using hs) (fun t ht => Nat.le_trans (tupleText_mem_le ht) hz')
    obtain ⟨as, r4⟩ := RdNs.reads h4
    have hna : a ∉ bs := not_mem_of_deeper (.tuple h1 h2 h3 r4) (by simp only [PyData.depth]; omega) hb
    refine ⟨"tuple", "tuple.__repr__", F.slot_tuple_repr, F.slot_tuple_str, F.slot_tuple_format, fun s hk0 => ⟨o, hk0 _ _ h1, h2⟩, fun A E s Q hg hu hk0 hQ => ?_⟩
    simp only [PyData.depth] at hu
    simp only [PyData.shown] at hQ
    exact call_tuple_reprK h1 h2 h3 hna hk hg (fun b _ => Clear.nil b) hu hk0 hQ hz'
  | dict h1 h2 h3 hsys h4 h5 =>
    rename_i o es n kvs
    have hz' : (dictText (PyData.shownKv kvs)).length ≤ sizeLine := by simpa only [PyData.shown] using hsz
    obtain ⟨hs1, hs2⟩ := PyData.showableKv_split kvs (by simpa [PyData.showable] using hs)
    obtain ⟨b1, hb1, k1⟩ := RdNs.reprK (prog := prog) (w := w) h4 hs1 (fun t ht => let ⟨p, hp, hl⟩ := PyData.shownKv_key_le kvs t ht; Nat.le_trans hl (Nat.le_trans (dictText_mem_le hp) hz'))
    obtain ⟨b2, hb2, k2⟩ := RdNs.reprK (prog := prog) (w := w) h5 hs2 (fun t ht => let ⟨p, hp, hl⟩ := PyData.shownKv_val_le kvs t ht; Nat.le_trans hl (Nat.le_trans (dictText_mem_le hp) hz'))
    obtain ⟨as, r4⟩ := RdNs.reads h4
    obtain ⟨as', r5⟩ := RdNs.reads h5
    have hb : ReadAtMost h₀ (PyData.depthKv kvs) (b1 ++ b2) := (hb1.mono (PyData.depthAll_keys_le kvs)).append (hb2.mono (PyData.depthAll_vals_le kvs))
    have hna : a ∉ b1 ++ b2 := not_mem_of_deeper (.dict h1 h2 h3 r4 r5) (by simp only [PyData.depth]; omega) hb
    refine ⟨"dict", "dict.__repr__", F.slot_dict_repr, F.slot_dict_str, F.slot_dict_format, fun s hk0 => ⟨o, hk0 _ _ h1, h2⟩, fun A E s Q hg hu hk0 hQ => ?_⟩
    simp only [PyData.depth] at hu
    simp only [PyData.shown, PyData.shownKv_eq] at hQ
    exact call_dict_reprK h1 h2 h3 hsys hna (ReprEntriesK.of_two es.toList _ _
      (k1.more_le (fun b hb => List.mem_append_left _ hb) (PyData.depthAll_keys_le kvs)) (k2.more_le (fun b hb => List.mem_append_right _ hb) (PyData.depthAll_vals_le kvs))) hg (fun b _ => Clear.nil b) hu hk0 hQ (by rw [← PyData.shownKv_eq]; exact hz')
theorem RdN.call {A : Around} {E : Value → Shared → Prop} {s : Shared} {Q : Value → Shared → Prop} {a : Addr} {d : PyData} (r : RdN h₀ (.ref a) d) (hs : d.showable = true) (hg : A.guards = some []) (hu : A.units + (d.depth + 1) < cLine) (hk0 : ∀ b o, h₀.get? b = some o → s.heap.get? b = some o)
    (hQ : ∀ h' u tk, (∀ b o, s.heap.get? b = some o → h'.get? b = some o) → Q (.str d.shown u) { s with heap := h', toks := tk })
    (hsz : d.shown.length ≤ sizeLine) : wpAny (model prog w) A (call (.builtin "repr") [.ref a]) Q E s := by
  obtain ⟨T, idr, S⟩ := RdN.shows (prog := prog) (w := w) r hs hsz
  exact call_repr_slot (by omega) (S.typeIs s hk0) S.slotRepr (S.call A.in1 E s _ hg (by show A.units + 1 + d.depth < cLine; omega) hk0 fun h' u tk hk => ⟨_, _, rfl, hQ h' u tk hk⟩)
end
/-! the same of tracked things -/
mutual
inductive Dq (K : PySem.W.Frag) (H : Hp) : V → PyData → Prop
  | non : Dq K H .non .none
  | bl (b : Bool) : Dq K H (.bl b) (.bool b)
  | int (i : Int) : Dq K H (.int i) (.int i)
  | str (x : Str) : Dq K H (.str x) (.str x)
  | lst {a : Addr} {xs : List V} {ds : List PyData} : SqL K H a xs → Dqs K H xs ds → Dq K H (.ref a) (.list ds)
  | tup {a : Addr} {xs : List V} {ds : List PyData} : SqT K H a xs → Dqs K H xs ds → Dq K H (.ref a) (.tuple ds)
  | dic {a : Addr} {kvs : List (L2.Key × V)} {es : List (PyData × PyData)} : H a = some (.dK kvs) → DqK K H kvs es → Dq K H (.ref a) (.dict es)
inductive Dqs (K : PySem.W.Frag) (H : Hp) : List V → List PyData → Prop
  | nil : Dqs K H [] []
  | cons {v : V} {vs : List V} {d : PyData} {ds : List PyData} : Dq K H v d → Dqs K H vs ds → Dqs K H (v :: vs) (d :: ds)
inductive DqK (K : PySem.W.Frag) (H : Hp) : List (L2.Key × V) → List (PyData × PyData) → Prop
  | nil : DqK K H [] []
  | cons {k : L2.Key} {v : V} {vs : List (L2.Key × V)} {d : PyData} {es : List (PyData × PyData)} : Dq K H v d → DqK K H vs es → DqK K H ((k, v) :: vs) ((kD k, d) :: es)
end
section
variable {X : Cx} {pins : List (Addr × Obj)} {σ : L2.St} {H : Hp} {s : Shared}
theorem keyN {h : Heap} {k : L2.Key} {u : Value} (q : keyIs k u = true) : RdN h u (kD k) := by
  rcases keyIs_shape q with ⟨i, t, rfl, rfl⟩ | ⟨x, t, rfl, rfl⟩
  · exact .int _ _
  · exact .str _ _
mutual
theorem Dq.rd (I : Inv X pins σ H s) : ∀ {d : PyData} {v : V} {u : Value}, Dq X.K H v d → RelV v u → RdN s.heap u d
  | _, _, _, .non, r => by cases r; exact .none
  | _, _, _, .bl b, r => by cases r; exact .bool b
  | _, _, _, .int i, r => by obtain ⟨t, rfl⟩ := r; exact .int i t
  | _, _, _, .str x, r => by obtain ⟨t, rfl⟩ := r; exact .str x t
  | _, _, _, .lst hs ha, r => by
    cases r
    obtain ⟨its, rv, ⟨o, n, ho, hc, _, hd⟩, _⟩ := I.list hs
    exact .list ho hc hd (Dqs.rd I ha rv)
  | _, _, _, .tup hs ha, r => by
    cases r
    obtain ⟨its, rv, ⟨o, ho, hc, n, hd⟩, _⟩ := I.tuple hs
    exact .tuple ho hc hd (Dqs.rd I ha rv)
  | _, _, _, .dic hs ha, r => by
    cases r
    obtain ⟨hz, hsys, vs, kv, o, es, ep, ho, ex, hd, _, pr, _⟩ := dk_of I.hok hs
    obtain ⟨q1, q2⟩ := DqK.rd I ha kv pr
    exact .dict ho ex.1 hd hsys q1 q2
theorem Dqs.rd (I : Inv X pins σ H s) : ∀ {ds : List PyData} {vs : List V} {us : List Value}, Dqs X.K H vs ds → Vals vs us → RdNs s.heap us ds
  | _, _, _, .nil, r => by cases r; exact .nil
  | _, _, _, .cons h1 h2, r => by
    cases r with
    | cons r1 r2 => exact .cons (Dq.rd I h1 r1) (Dqs.rd I h2 r2)
theorem DqK.rd (I : Inv X pins σ H s) : ∀ {kvs : List (L2.Key × V)} {es : List (PyData × PyData)} {vs : List (L2.Key × Value)} {ens : List DictEntry}, DqK X.K H kvs es → KV kvs vs → Pairs (mixKind X.prog X.w) ens vs → RdNs s.heap (ens.map (·.key)) (es.map (·.1)) ∧ RdNs s.heap (ens.map (·.val)) (es.map (·.2))
  | _, _, _, _, .nil, r, p => by
    cases r
    cases p
    exact ⟨.nil, .nil⟩
  | _, _, _, _, .cons h1 h2, r, p => by
    cases r with
    | cons r1 r2 =>
      cases p with
      | cons p1 p2 p3 =>
        obtain ⟨e1, e2⟩ := r1
        obtain ⟨t1, t2⟩ := DqK.rd I h2 r2 p3
        dsimp only at e1 e2
        rw [← e1] at p1
        refine ⟨.cons (keyN p1) t1, .cons ?_ t2⟩
        dsimp only
        rw [p2]
        exact Dq.rd I h1 e2
end
end
/-! repr -/
end Fr
namespace Fr
open PySem L2
end Fr
namespace Fr
open PySem L2
open AutoSeq1 (wpAny_loadPart')
/-! ### a dict and a tuple are not equal -/
end Fr
/-! set(list of numbers), sorted of it -/
namespace Fr
open PySem PySem.Spec PyProof.Rows L2
section
variable {P : Program} {w : World} {A : Around} {E : Value → Shared → Prop} {s : Shared}
/-- a new empty set -/
def emp (w : World) : Obj := { cls := .type "set", dict := none, data := .set #[] 0 (.fresh 0 0 (!w.params.followText "set-order")) }
end
section
variable {G : Gx} {X : Cx} {K : PySem.W.Frag} {cl : Str → Addr} {E : XK} {kk : Nat} {F H F' H' : Hp} {σ : L2.St} {e : Expr} {te : TE} {me : EV → Out (Rv × EV)} {p q pos px : Pos}
/-- set(list of numbers) -/
def rSetL (K : PySem.W.Frag) (w : World) : List V → Hp → VK → Prop := fun xs H Q => ∃ (l : Addr) (ns : List Int), xs = [V.ref l] ∧ SqL K H l (ns.map V.int) ∧ ns.length < 64 ∧
  ∀ a c, H a = none → c ≤ ns.length → Q (.ref a) (upd H a (SetO w a (fun j => decide (j ∈ ns)) c))
end
end Fr
/-! sum(list of lists, []) -/
namespace Fr
open PySem PySem.Spec PyProof.Rows L2
section
variable {X : Cx}
def flat (ls : List (Addr × List V)) : List V := (ls.map (·.2)).flatten
end
end Fr
namespace Fr
open PySem L2
open AutoSeq1 (wpAny_loadPart')
open MeetsSeq MeetsSeq2 MeetsSeq3 SeqRoads2
/-! ### a tuple times a number: any tuple -/
end Fr
namespace Fr
open PySem L2
open AutoSeq1 (wpAny_loadPart')
/-! ### a dict != a text -/
end Fr
namespace Fr
open PySem L2
/-! ### a def with one default, called with all its arguments -/
section
variable {P : Program} {w : World} {K : PySem.W.Frag} {mg : Str → Option Value} {bs : Heap} {cl : Str → Addr}
theorem fun_gD {dvs : List V} {kws : List (Str × V)} {x qual : Str} {st : Stmt} {f : Addr} {fd : FuncData} {N ps : List Str} {k : Nat} {mb : EV → Out (Fl × EV)} (Fu : FunD K x qual (defArgs st) (defBody st) (defScope st) dvs kws f fd) (S : FnScope N ps (defScope st))
    (hbody : ∀ (cdv : Value) (A : Around) (out : List Env) (s : Shared) (H : Hp) (E : XK), Cw (cxOf (L2.CX P w) P w K mg bs N qual (defScope st) f cdv A out s H E) K E k →
      ∃ t, SB (cxOf (L2.CX P w) P w K mg bs N qual (defScope st) f cdv A out s H E) K cl E ps.length (defBody st) t mb) : FnG P w K mg bs (k + 1) f fd ps (SpF ⟨K, cl⟩ (runF ps.length N.length mb)) := by
  obtain ⟨oc, od, dV, kV, doc, pm, an, cdv, ct, osl, rfl, lk, hcd, _, _⟩ := Fu.ex
  refine fng_of lk hcd S (fun vs H Q E h => ?_) (fun A out s H vs Q E hr hgd h => ?_)
  · obtain ⟨F, as, e, _, p⟩ := h
    have hl : as.length = vs.length := by have := e.len; simpa using this
    unfold runF at p
    by_cases q : as.length = ps.length
    · omega
    · rw [if_neg q] at p; exact p.elim
  · obtain ⟨F, as, e, _, p⟩ := h
    obtain ⟨t, h1, h2⟩ := hbody cdv A out s H E ⟨rfl, hr, hgd, rfl, passes_call (takes_of rfl rfl rfl rfl) fun _ _ _ _ z => z⟩
    refine ⟨t, h1, ?_⟩
    have hl : as.length = vs.length := by have := e.len; simpa using this
    unfold runF at p
    by_cases q : as.length = ps.length
    · rw [if_pos q] at p
      refine h2 ⟨F, H, as, vs⟩ F H _ _ _ q (StI.start (N := N) e) ?_
      rw [q]
      revert p
      cases mb (as ++ List.replicate (N.length - ps.length) none) with
      | bad => exact id
      | ex c fs ρ => exact fun p F' H' σ' cls dd s' x => p F' H' cls dd (s'.leave e) x
      | ok y =>
        obtain ⟨fl, ρ⟩ := y
        cases fl with
        | brk => exact False.elim
        | cont => exact False.elim
        | next => exact fun p F' H' σ' s' => p F' H' .non (s'.leave e) .non
        | ret r => exact fun p F' H' σ' v s' rr => p F' H' v (s'.leave e) (by
            cases r with
            | val d => exact rr
            | own d => exact rr
            | ref i => exact rr.elim)
    · rw [if_neg q] at p; exact p.elim
end
end Fr
namespace Fr
open PySem L2
/-! ### a method with one keyword-only parameter that has a default: o.m() and o.m(k = e) -/
section
variable {P : Program} {w : World} {K : PySem.W.Frag} {mg : Str → Option Value} {bs : Heap} {cl : Str → Addr}
/-- the method with its keyword -/
structure MthK (P : Program) (w : World) (K : PySem.W.Frag) (mg : Str → Option Value) (bs : Heap) (cl : Str → Addr) (c x : Str) (k : Nat) (mf : Mf) (kw : Str) : Prop where
  cls : Cls K (cl c)
  ex : ∃ (f : Addr) (fd : FuncData) (ps : List Str), FnG P w K mg bs k f fd ps (SpF ⟨K, cl⟩ mf) ∧ Meth K (cl c) x f ∧ KBn K fd ps 1 [kw] (fun us ws => us ++ ws) (fun vs zs => vs ++ zs) ∧ ps.length = 2
end
section
variable {G : Gx} {X : Cx} {K : PySem.W.Frag} {cl : Str → Addr} {E : XK} {kk : Nat} {e o : Expr} {pos p apos kpos : Pos} {te to : TE} {me mo : EV → Out (Rv × EV)} {t : TA} {m : EV → Out (List Rv × EV)}
theorem run_gN {k n : Nat} {f : Addr} {fd : FuncData} {ps ks : List Str} {sp : Sp} {g : List Value → List Value → List Value} {gV : List V → List V → List V} {pins : List (Addr × Obj)} {σ : St} {H : Hp} {s : Shared} {Q : VK} {us ws : List Value} {vs zs : List V} (F : FnG X.prog X.w X.K X.mg X.base k f fd ps sp) (hr : Room k X.A) (hgd : X.A.guards = some []) (hb : KBn X.K fd ps n ks g gV) (hx : Passes (L2.CX X.prog X.w) X E)
    (I : Inv X pins σ H s) (r : Vals vs us) (rz : Vals zs ws) (l1 : vs.length = n) (l2 : zs.length = ks.length) (h : sp (gV vs zs) H Q E) : wpAny (model X.prog X.w) X.A (call (.ref f) us (ks.zip ws)) (EP X pins σ Q) X.xe s := by
  have r2 := hb.rel r rz
  refine wpAny_call (codeAny_mono (F.run X.A X.stack s H ⟨us, ks.zip ws⟩ (g us ws) (gV vs zs) Q E hr hgd I.env0 (hb.to s us ws I.kIn (r.length.symm.trans l1) (rz.length.symm.trans l2)) r2 h) fun r s' hq => ?_)
  cases r with
  | error e => exact hx pins σ H s e s' I hq
  | ok fl =>
    cases fl with
    | ret u => exact I.after hq
    | next => exact False.elim hq
    | brk => exact False.elim hq
    | cont => exact False.elim hq
theorem se_methK {k : Nat} {mf : Mf} {c x kw : Str} {pl : Sem Bool} (C : Cw X K E kk) (h : MthK X.prog X.w K X.mg X.base cl c x k mf kw) (ho : SE X K cl E o to mo) (ha : SE X K cl E e te me) (hk : k ≤ kk := by decide)
    (hall : (backToKw pos (keywordEach [⟨some kw, e, kpos⟩] X.env)).all (·.1.isSome) = true := by rfl) (hks : (backToKw pos (keywordEach [⟨some kw, e, kpos⟩] X.env)).filterMap (·.1) = [kw] := by rfl)
    (hpl : ((backTo pos (starEach [] X.env)).any (·.1) || (backToKw pos (keywordEach [⟨some kw, e, kpos⟩] X.env)).any (·.1.isNone)) = false := by rfl)
    (ht : eval (.Call (.Attribute o x apos) [] [⟨some kw, e, kpos⟩] pos) X.env = (do let ov ← eval o X.env; standAt apos.atName; let (f, first) ← holding [ov] (getMethod ov x pl); callWith pos f first (backTo pos (starEach [] X.env)) (backToKw pos (keywordEach [⟨some kw, e, kpos⟩] X.env))) := by rfl) :
    SE X K cl E (.Call (.Attribute o x apos) [] [⟨some kw, e, kpos⟩] pos) (tMeth (cl c) x (SpF ⟨K, cl⟩ mf) [] E to (tCons te tNil)) (mMeth mf c x [] mo (aCons me aNil)) := by
  obtain ⟨kq, room, gd, calm, pass⟩ := C
  subst kq
  obtain ⟨f, fd, ps, F, hm, hb, hp⟩ := h.ex
  have hkw : PK X [⟨some kw, e, kpos⟩] (tCons te tNil) := pk_cons ha.1 pk_nil
  refine ⟨⟨fun pins s σ H Q I q => PySem.W.methodCall_KW (pl := pl) (thn (ho.1.run pins s σ H _ I q) fun u s1 hh => ?_) ht⟩, md_meth (fun _ => .nil) ho.2 (mdA_cons ha.2 (sa_nil (X := X)).2)⟩
  obtain ⟨y, H1, I1, rx, a, dx, fs, rfl, ea, l, q⟩ := hh
  obtain rfl : u = Value.ref a := rx
  refine getmeth_ok I1 ea h.cls hm l (PySem.W.callWith_KW0 (first := [.ref a]) (h₀ := X.base) I.ok.mod.kin hm.kp hall ?_ hpl)
  refine thn (hkw.run pos pins s1 σ H1 _ I1 q) fun ws s2 ⟨zs, H2, I2, rz, q2⟩ => ⟨I2.kIn, ?_⟩
  rw [hks]
  have l2 : zs.length = 1 := by
    have := F.len _ _ _ _ q2
    rw [hp, List.append_nil] at this
    simpa using this
  exact run_gN (us := [.ref a]) (vs := [.ref a]) F (room.mono hk) gd hb pass I2 (.cons rfl .nil) rz rfl l2 (by have q3 : SpF ⟨X.K, cl⟩ mf (V.ref a :: (zs ++ [])) H2 Q E := q2; rw [List.append_nil] at q3; exact q3)
end
section
variable {K : PySem.W.Frag} {x qual : Str} {st : Stmt} {f : Addr} {fd : FuncData} {ps : List Str}
theorem funk_mk {f D : Addr} {z : Str} {n : Int} {t : Nat} {oc : Value} {od an : Option Addr} {osl : Array (Option Value)} {doc pm cdv ct : Value} (l : K.lookup f = some ⟨oc, od, .func (PySem.W.fnOf x qual (defArgs st) (defBody st) (defScope st) .none (.ref D) doc pm an cdv ct), osl⟩)
    (lD : PySem.W.nsIn K D z = some (some (.int n t))) (c : PySem.W.codeIn K cdv qual = true) (k : PySem.W.keepIn K (.ref f) = true) : FunD K x qual (defArgs st) (defBody st) (defScope st) [] [(z, .int n)] f (PySem.W.fnOf x qual (defArgs st) (defBody st) (defScope st) .none (.ref D) doc pm an cdv ct) :=
  ⟨⟨oc, od, .none, .ref D, doc, pm, an, cdv, ct, osl, rfl, l, c, .inl ⟨rfl, rfl⟩, .inr ⟨D, rfl, fun q hq => by rw [List.mem_singleton.mp hq]; exact ⟨_, lD, t, rfl⟩⟩⟩, k⟩
theorem funk_key {z : Str} {v : V} (F : FunD K x qual (defArgs st) (defBody st) (defScope st) [] [(z, v)] f fd)
    (h : ∀ (D : Addr) (doc pm : Value) (an : Option Addr) (cdv ct : Value) (u y : Value), bindArgs (PySem.W.fnOf x qual (defArgs st) (defBody st) (defScope st) .none (.ref D) doc pm an cdv ct) ⟨[u], [(z, y)]⟩ = pure (ps.zip [u, y])) :
    KBn K fd ps 1 [z] (fun us ws => us ++ ws) (fun vs zs => vs ++ zs) := by
  obtain ⟨mv, b⟩ := F.kbinds0 (ps := ps) 1 [z] [] (g := fun us _ ws => us ++ ws) (by simp) (fun q hq => by cases hq) (fun h1 _ h3 => h1.append h3) (fun D doc pm an cdv ct us mv ws h1 h2 h3 => by
    match us, h1, ws, h3 with
    | [u], _, [y], _ => exact h D doc pm an cdv ct u y)
  exact b
theorem funk_dflt {z : Str} {v : V} (F : FunD K x qual (defArgs st) (defBody st) (defScope st) [] [(z, v)] f fd) (hp : ps.length = 2)
    (h : ∀ (D : Addr) (doc pm : Value) (an : Option Addr) (cdv ct : Value) (u y : Value), KwChain D [(z, y)] (bindArgs (PySem.W.fnOf x qual (defArgs st) (defBody st) (defScope st) .none (.ref D) doc pm an cdv ct) ⟨[u], []⟩) (ps.zip [u, y])) :
    ∃ ds, Vals [v] ds ∧ Binds K fd ps ds :=
  F.binds0 (ps := ps) 1 (by simp) (by simpa using hp.symm) (fun D doc pm an cdv ct us ks h1 h2 => by
    match us, h1, ks, h2 with
    | [u], _, [y], _ => exact h D doc pm an cdv ct u y)
end
end Fr
namespace Fr
open PySem L2 PyProof.Rows PySem.W
/-! ### sorted(xs, key = f), f a def of the program -/
abbrev srtK (xs : List V) (kz : List D) : List V := ((xs.zip kz).mergeSort (dataLe false Prod.snd)).map Prod.fst
def rSortKF (K : PySem.W.Frag) (sp : Sp) : V → Hp → VK → Prop := fun x H Q => ∃ (a : Addr) (xs : List V) (kz : List D) (J : Nat → List V → Hp → Prop), x = .ref a ∧ SqL K H a xs ∧ kz.length = xs.length ∧ J 0 [] H ∧
  (∀ (i : Nat) (x : V) (ys : List V) (H' : Hp), xs[i]? = some x → J i ys H' → sp [x] H' (fun y H'' => J (i + 1) (ys ++ [y]) H'') E0) ∧
  (∀ (ys : List V) (H' : Hp), J xs.length ys H' → SrtOk K H' ys kz ∧ ∀ p, H' p = none → Q (.ref p) (upd H' p (.lst (srtK xs kz))))
theorem each_reads {h : Heap} : ∀ {us : List Value} {ds : List D} {as : List Addr}, ReadsAll h us ds as → EachIs (fun (u : Value) (d : D) => ∃ as, Reads h u d as) us ds
  | _, _, _, .nil => .nil
  | _, _, _, .cons r t => .cons ⟨_, r⟩ (each_reads t)
theorem vals_getK {xs : List V} {us : List Value} (r : Vals xs us) {i : Nat} {u : Value} (h : us[i]? = some u) : ∃ x, xs[i]? = some x ∧ RelV x u := by
  induction r generalizing i with
  | nil => simp at h
  | cons q t ih =>
    cases i with
    | zero =>
      simp at h
      subst h
      exact ⟨_, rfl, q⟩
    | succ i => exact ih (by simpa using h)
section
variable {X : Cx}
theorem pins_lt {pins : List (Addr × Obj)} {σ : L2.St} {H : Hp} {s : Shared} (I : Inv X pins σ H s) : ∀ p ∈ X.pn ++ pins, @LT.lt Nat _ p.1 s.heap.objs.size := fun p hp => Heap.lt_size (I.pin p hp).1
theorem not_cell {h : Heap} {b : Addr} {v : Option Value} {xs : Array Value} {n : Nat} (e : h.get? b = some (seqObj "list" xs n)) (c : h.IsCell b v) : False := by
  obtain ⟨o, e2, e3⟩ := c
  rw [e] at e2
  cases e2
  cases e3
theorem ks_rest {k : Nat} {f a kS : Addr} {fd : FuncData} {ps : List Str} {sp : Sp} {pins : List (Addr × Obj)} {σ : L2.St} {H : Hp} {s : Shared} {xs : List V} {kz : List D} {its : List Value} {J : Nat → List V → Hp → Prop} {Q : VK} {e1 : Nat} {E' : Value → Shared → Prop}
    (F : FnG X.prog X.w X.K X.mg X.base k f fd ps sp) (hr : Room (k + 2) X.A) (hgd : X.A.guards = some []) (hb : Binds X.K fd ps []) (hu : X.A.units + 64 < cLine)
    (I : Inv X pins σ H s) (gS : s.heap.get? kS = some (seqObj "list" #[] 0)) (gA : s.heap.get? a = some (seqObj "list" #[] e1)) (hkS2 : @LT.lt Nat _ a kS) (hnA : H a = none) (hnS : H kS = none) (hlt : ∀ p ∈ X.pn ++ pins, @LT.lt Nat _ p.1 a) (hloc : @LT.lt Nat _ X.env.locals a) (hsz : @LE.le Nat _ X.s_0.heap.objs.size a) (fsA : a ∉ X.fs) (fsS : kS ∉ X.fs)
    (rv : Vals xs its) (hz : its.length ≤ sizeLine) (hkl : kz.length = xs.length) (j0 : J 0 [] H)
    (jst : ∀ (i : Nat) (x : V) (ys : List V) (H' : Hp), xs[i]? = some x → J i ys H' → sp [x] H' (fun y H'' => J (i + 1) (ys ++ [y]) H'') E0)
    (jend : ∀ (ys : List V) (H' : Hp), J xs.length ys H' → SrtOk X.K H' ys kz ∧ ∀ p, H' p = none → Q (.ref p) (upd H' p (.lst (srtK xs kz)))) :
    wpAny (model X.prog X.w) X.A.in1.in1 (ksk_rest a (.ref f) false its.toArray e1 (.ref kS)) (fun fn s' => fn = .done (.ret .none) ∧ EP X pins σ Q (.ref a) s') E' s := by
  have l1 := rv.length
  have hka : kS ≠ a := Nat.ne_of_gt hkS2
  unfold ksk_rest
  refine wpAny_bind (wpAny_rule ?_)
  first
    | rw [List.forIn_toArray]
    | (rw [← Array.forIn_toList]; simp only [List.toList_toArray])
    | rw [← Array.forIn_toList]
  have pinOk : ∀ {H' : Hp} {s' : Shared} {kA : Array Value} {e : Nat}, Inv X pins σ H' s' → H' kS = none → H' a = none → s'.heap.get? kS = some (seqObj "list" kA e) → s'.heap.get? a = some (seqObj "list" #[] e1) → Inv X ((kS, seqObj "list" kA e) :: (a, seqObj "list" #[] e1) :: pins) σ H' s' := fun I' n1 n2 q1 q2 =>
    I'.pins_of fun p hp => by
      rcases List.mem_cons.mp hp with rfl | hp
      · exact ⟨q1, n1, Nat.ne_of_gt (Nat.lt_trans hloc hkS2), fsS, fun v z => by cases z⟩
      rcases List.mem_cons.mp hp with rfl | hp
      · exact ⟨q2, n2, Nat.ne_of_gt hloc, fsA, fun v z => by cases z⟩
      · exact I'.pin p (List.mem_append_right _ hp)
  refine wpAny_bind (ksk_fold (fun i s' => ∃ kA e H' ys, Inv X ((kS, seqObj "list" kA e) :: (a, seqObj "list" #[] e1) :: pins) σ H' s' ∧ Vals ys kA.toList ∧ kA.size = i ∧ J i ys H') its 0 s
    ⟨#[], 0, H, [], pinOk I hnS hnA gS gA, .nil, rfl, j0⟩ ?step ?done)
  case step =>
    rintro j x s' hx ⟨kA, e, H', ys, I', rk, hk, hj⟩
    simp only [Nat.zero_add] at hk hj ⊢
    have hj2 : j < its.length := (List.getElem?_eq_some_iff.mp hx).1
    obtain ⟨x0, hx0, rx⟩ := vals_getK rv hx
    have hsp := jst j x0 ys H' hx0 hj
    have hl : ([x] : List Value).length = ps.length := by
      rw [← F.len _ _ _ _ hsp]; rfl
    refine wpAny_bind (wpAny_attempt (wpAny_mono (Q := EP X ((kS, seqObj "list" kA e) :: (a, seqObj "list" #[] e1) :: pins) σ (fun y H'' => J (j + 1) (ys ++ [y]) H'')) (E := fun _ _ => False) ?run (fun v s'' he => ?_) fun _ _ hF => hF.elim))
    case run =>
      refine wpAny_call (codeAny_mono (F.run X.A.in1.in1 X.stack s' H' ⟨[x], []⟩ ([x] ++ []) ([x0] ++ []) _ E0 (Room.in1 (Room.in1 hr)) hgd I'.env0.in1.in1 (hb _ [x] I'.kIn (by simpa using hl)) (.cons rx .nil) hsp) fun r s'' hq => ?_)
      cases r with
      | error er => obtain ⟨_, _, _, _, _, _, _, _, _, _, _, _, z⟩ := hq; exact z.elim
      | ok fl =>
        cases fl with
        | ret u => exact I'.after hq
        | next => exact False.elim hq
        | brk => exact False.elim hq
        | cont => exact False.elim hq
    obtain ⟨y, H'', I2, ry, hj3⟩ := he
    have pS := I2.pin (kS, seqObj "list" kA e) (List.mem_append_right _ (.head _))
    have pA := I2.pin (a, seqObj "list" #[] e1) (List.mem_append_right _ (.tail _ (.head _)))
    obtain ⟨nk2, nS2, lS2, _, _⟩ := pS
    obtain ⟨na2, nA2, _, _, _⟩ := pA
    dsimp only at nk2 nS2 lS2 na2 nA2
    have I3 : Inv X pins σ H'' s'' := I2.pins_of fun p hp => I2.pin p (List.mem_append_right _ (.tail _ (.tail _ hp)))
    have hzs : kA.size ≤ its.length := by omega
    have s1 := Heap.SameBut.update s''.heap kS (Obj.mapSeq (·.push v))
    obtain ⟨c2, hc2⟩ : ∃ c2, (s''.heap.update kS (Obj.mapSeq (·.push v))).get? kS = some (seqObj "list" (kA.push v) c2) := ⟨_, get?_update_seq nk2 (·.push v)⟩
    refine wpAny_bind (listUpdate_at nk2 rfl ?_ (by omega) (by rw [Array.size_push]; omega))
    have I4 : Inv X pins σ H'' { s'' with heap := s''.heap.update kS (Obj.mapSeq (·.push v)) } := I3.turned (it := kS) (t' := s''.toks) (fun b o hb e => (s1.2 b hb).trans e) nS2 lS2 (.inr (Nat.le_of_lt (Nat.lt_of_le_of_lt hsz hkS2))) (fun z c e q => by
        subst q
        obtain ⟨u, cc⟩ := I3.cell z _ e
        exact not_cell nk2 cc) (fun p hp => Nat.ne_of_lt (Nat.lt_trans (hlt p hp) hkS2))
    refine wpAny_pure ⟨rfl, kA.push v, c2, H'', ys ++ [y], pinOk I4 nS2 nA2 hc2 ((s1.2 a hka.symm).trans na2), ?_, by rw [Array.size_push]; omega, hj3⟩
    rw [Array.toList_push]
    exact rk.append (.cons ry .nil)
  case done =>
    rintro s' ⟨kA, e, H', ys, I', rk, hk, hj⟩
    rw [Nat.zero_add, ← l1] at hj
    rw [Nat.zero_add] at hk
    obtain ⟨ok, q⟩ := jend ys H' hj
    obtain ⟨nk', nS2, lS2, _, _⟩ := I'.pin (kS, seqObj "list" kA e) (List.mem_append_right _ (.head _))
    obtain ⟨na', nA2, lA2, _, _⟩ := I'.pin (a, seqObj "list" #[] e1) (List.mem_append_right _ (.tail _ (.head _)))
    dsimp only at nk' nS2 lS2 na' nA2 lA2
    have I3 : Inv X pins σ H' s' := I'.pins_of fun p hp => I'.pin p (List.mem_append_right _ (.tail _ (.tail _ hp)))
    obtain ⟨as, h4⟩ := Dp.readsAll I3 kz _ kA.toList ok.dp rk
    have hk' := each_reads h4
    refine wpAny_bind (listItems_at nk' rfl ?_)
    refine keyH_end (κ := dataKind s'.heap kz) (h₁ := hideAll s'.heap [kS]) (fun b o _ e => of_hideAll _ e) (hideAll_none _ (.head _)) nk' na' hka (SortsAt.data (s := s') hk' ok.al ok.so (fun d hd => by
        have := ok.dep d hd
        show X.A.units + 1 + 1 + _ < cLine
        omega)) (by omega) hz fun h3 tk3 c k3 n3 => ⟨rfl, ?_⟩
    have ko : KeyedOut false kz its (sortVals (dataKind s'.heap kz) false kA.toList its) := ⟨s'.heap, kA.toList, ok.al, rfl, hk'⟩
    have eq : (xs.zip kz).map Prod.snd = kz := zip_snd hkl.symm
    have he := keyedOut_each (R := fun (u : Value) (b : V × D) => RelV b.1 u) (bs := xs.zip kz) Prod.snd (by rw [eq]; exact ko) (each_zip rv (by omega))
    have hlen : (srtK xs kz).length ≤ sizeLine := by
      rw [List.length_map, List.length_mergeSort, List.length_zip]
      exact Nat.le_trans (Nat.min_le_left _ _) (by omega)
    have kp : ∀ b o, b ≠ a → b ≠ kS → s'.heap.get? b = some o → h3.get? b = some o := fun b o hb hb2 e => k3 b o hb (hideAll_get _ e (by simpa using hb2))
    refine ⟨.ref a, upd H' a (.lst (srtK xs kz)), ?_, rfl, q a nA2⟩
    have hne : ∀ (b : Addr) (o : HO), H' b = some o → b ≠ a ∧ b ≠ kS := fun b o e => ⟨(fun z => by rw [z, nA2] at e; cases e), (fun z => by rw [z, nS2] at e; cases e)⟩
    have hN : (upd H' a (.lst (srtK xs kz))) a = some (.lst (srtK xs kz)) := upd_same
    have hO : ∀ b, b ≠ a → (upd H' a (.lst (srtK xs kz))) b = H' b := fun b h => upd_ne h
    refine I3.call (ch := [a, kS]) (g' := s'.gens) (d' := s'.drawn) ⟨fun b o e _ _ hx => ?_, fun b o e n hb hx => ?_, fun b o e n hx => ?_, fun b o e hx => ?_, fun b ys e => ?_, fun b o u e => ?_, fun b ps e => ?_⟩ (fun b o e => ?_) I3.bare (fun b hb => ?_)
    · exact kp b o (fun z => hx (by rw [z]; exact .head _)) (fun z => hx (by rw [z]; exact .tail _ (.head _))) e
    · exact ⟨o.slots, kp b o (fun z => hx (by rw [z]; exact .head _)) (fun z => hx (by rw [z]; exact .tail _ (.head _))) e⟩
    · rw [hO b (fun z => hx (by rw [z]; exact .head _))]; exact n
    · exact ⟨o, kp b o (fun z => hx (by rw [z]; exact .head _)) (fun z => hx (by rw [z]; exact .tail _ (.head _))) e⟩
    · rw [hO b (hne b _ e).1]; exact e
    · rw [hO b (hne b _ e).1]; exact e
    · exact ⟨#[], by rw [hO b (hne b _ e).1, e]; simp⟩
    · by_cases hb : b = a
      · subst hb
        rw [hN] at e
        cases e
        exact ⟨hlen, _, c, vals_each he, n3⟩
      · rw [hO b hb] at e
        refine (I3.hok b o e).stay (fun c v hc q => kp c v ?_ ?_ q) (fun c q => by rw [hO c (hne c _ q).1]; exact q) fun c ys q => by rw [hO c (hne c _ q).1]; exact q
        · rcases hc with z | z
          · rw [z]; exact hb
          · exact (hne c _ z).1
        · rcases hc with z | z
          · rw [z]; exact (hne b o e).2
          · exact (hne c _ z).2
    · rcases List.mem_cons.mp hb with rfl | hb
      · refine ⟨.inr hsz, Ne.symm (Nat.ne_of_lt hloc), fun z c e q => ?_, fun p hp => Nat.ne_of_lt (hlt p hp)⟩
        subst q
        obtain ⟨u, cc⟩ := I3.cell z _ e
        exact not_cell na' cc
      · have := List.mem_singleton.mp hb
        subst this
        refine ⟨.inr (Nat.le_of_lt (Nat.lt_of_le_of_lt hsz hkS2)), lS2, fun z c e q => ?_, fun p hp => Nat.ne_of_lt (Nat.lt_trans (hlt p hp) hkS2)⟩
        subst q
        obtain ⟨u, cc⟩ := I3.cell z _ e
        exact not_cell nk' cc
theorem cr_sortedF {k : Nat} {f : Addr} {fd : FuncData} {ps : List Str} {sp : Sp} (F : FnG X.prog X.w X.K X.mg X.base k f fd ps sp) (hr : Room (k + 2) X.A) (hgd : X.A.guards = some []) (hb : Binds X.K fd ps []) (hu : X.A.units + 64 < cLine) :
    ∀ (pins : List (Addr × Obj)) (s : Shared) (σ : L2.St) (H : Hp) (x : V) (us : List Value) (Q : VK), Inv X pins σ H s → Vals [x] us → rSortKF X.K sp x H Q → wpAny (model X.prog X.w) X.A (call (.builtin "sorted") us [(Str.ofString "key", .ref f)]) (EP X pins σ Q) X.xe s := by
  intro pins s σ H x us Q I r h
  obtain ⟨l, xs, kz, J, rfl, hs, hkl, j0, jst, jend⟩ := h
  obtain rfl := Vals.ref1 r
  obtain ⟨its, rv, hl, hz⟩ := I.list hs
  have l1 := rv.length
  refine sorted_of_sort hl.isList (by omega) (ksk_s1 _ _) (fun _ => ksk_l1 _ _) fun E' => ?_
  rw [ksk_t1]
  have ho := copyHeap_at s.heap its
  have ha : @LT.lt Nat _ (s.heap.objs.size + 1) (copyHeap s.heap its).objs.size := Heap.lt_size ho
  obtain ⟨e1, ho1⟩ : ∃ e1, ((copyHeap s.heap its).update (s.heap.objs.size + 1) (Obj.mapSeq fun _ => (#[] : Array Value))).get? (s.heap.objs.size + 1) = some (seqObj "list" #[] e1) := ⟨_, get?_update_seq ho fun _ => #[]⟩
  have hkS : (((copyHeap s.heap its).update (s.heap.objs.size + 1) (Obj.mapSeq fun _ => (#[] : Array Value))).push (seqObj "tuple" its.toArray 0)).objs.size = (copyHeap s.heap its).objs.size + 1 := by rw [size_push', Heap.size_update]
  unfold ksk_tree
  refine wpAny_bind (listItems_at ho rfl ?_)
  refine wpAny_bind (listUpdate_at ho rfl ?_ (by rw [List.size_toArray]; omega) (Nat.zero_le _))
  refine wpAny_bind (seqEpoch_at ho1 rfl ?_)
  refine wpAny_bind (wpAny_newTuple ?_ (by show its.length ≤ _; omega))
  refine wpAny_bind (wpAny_newList ?_ (Nat.zero_le _))
  refine wpAny_holding ?_
  have gK : ∀ b o, s.heap.get? b = some o → ((((copyHeap s.heap its).update (s.heap.objs.size + 1) (Obj.mapSeq fun _ => (#[] : Array Value))).push (seqObj "tuple" its.toArray 0)).push (seqObj "list" #[] 0)).get? b = some o := fun b o e => by
    refine Heap.get?_push_of_some _ (Heap.get?_push_of_some _ ?_)
    rw [Heap.get?_update_ne _ _ _ _ (Nat.ne_of_lt (Nat.lt_succ_of_lt (Heap.lt_size e)))]
    exact copyHeap_old e
  have hlt := pins_lt I
  have hloc := I.lt
  have hsz := I.sz
  refine ks_rest (s := { s with heap := (((copyHeap s.heap its).update (s.heap.objs.size + 1) (Obj.mapSeq fun _ => (#[] : Array Value))).push (seqObj "tuple" its.toArray 0)).push (seqObj "list" #[] 0) }) (kS := (((copyHeap s.heap its).update (s.heap.objs.size + 1) (Obj.mapSeq fun _ => (#[] : Array Value))).push (seqObj "tuple" its.toArray 0)).objs.size)
    F hr hgd hb hu (I.kept (t' := s.toks) gK) (Heap.get?_push_size _ rfl) (Heap.get?_push_of_some _ (Heap.get?_push_of_some _ ho1)) (Nat.lt_of_lt_of_le ha (Nat.le_trans (Nat.le_succ _) (Nat.le_of_eq hkS.symm))) (I.hok.fresh (by omega)) (I.hok.fresh (by rw [hkS]; exact Nat.le_succ_of_le (Nat.le_of_lt (Nat.lt_of_succ_lt ha)))) (fun p hp => Nat.lt_succ_of_lt (hlt p hp)) (Nat.lt_succ_of_lt hloc) (Nat.le_succ_of_le hsz) (I.nofs (Nat.le_succ _)) (I.nofs (by rw [hkS]; exact Nat.le_succ_of_le (Nat.le_of_lt (Nat.lt_of_succ_lt ha)))) rv (by omega) hkl j0 jst jend
end
end Fr
namespace Fr
open PySem L2 PyProof.Rows PySem.W
/-! ### the mirror of sorted(xs, key = f) -/
def keysM (mf : Mf) : List D → Option (List D)
  | [] => some []
  | d :: ds => match mf [some (.val d)] with
    | .ok (.val y, _) => (keysM mf ds).map (y :: ·)
    | _ => none
def sortKL (ds kz : List D) : List D := ((ds.zip kz).mergeSort (dataLe false Prod.snd)).map Prod.fst
def sortKD (mf : Mf) : D → Option Sl
  | .list ds => match keysM mf ds with
    | some kz => if okSort kz = true then some (.own (.list (sortKL ds kz))) else none
    | none => none
  | _ => none
theorem keysM_at {mf : Mf} : ∀ {ds kz : List D}, keysM mf ds = some kz → ∀ {i : Nat} {d : D}, ds[i]? = some d → ∃ y as, kz[i]? = some y ∧ mf [some (.val d)] = .ok (.val y, as)
  | [], _, _, i, d, h => by simp at h
  | e :: ds, kz, h, i, d, hd => by
    unfold keysM at h
    split at h
    · rename_i y as e1
      obtain ⟨kz', h2, rfl⟩ := Option.map_eq_some_iff.mp h
      cases i with
      | zero =>
        simp at hd
        subst hd
        exact ⟨y, as, rfl, e1⟩
      | succ i => exact keysM_at h2 (by simpa using hd)
    · cases h
theorem keysM_len {mf : Mf} : ∀ {ds kz : List D}, keysM mf ds = some kz → kz.length = ds.length
  | [], _, h => by cases h; rfl
  | e :: ds, kz, h => by
    unfold keysM at h
    split at h
    · obtain ⟨kz', h2, rfl⟩ := Option.map_eq_some_iff.mp h
      rw [List.length_cons, List.length_cons, keysM_len h2]
    · cases h
section
variable {G : Gx} {F H F' H' : Hp} {X : Cx} {K : PySem.W.Frag} {cl : Str → Addr} {E : XK} {kk : Nat} {e : Expr} {te : TE} {me : EV → Out (Rv × EV)} {p pos kpos fpos : Pos}
theorem Rs.pairs {ds : List D} {xs : List V} (r : Rs G F ds xs) : ∀ (kz : List D), kz.length = ds.length → Rs G F (sortKL ds kz) (srtK xs kz) := fun kz hl => by
  have hx := r.length
  have key : ∀ (ds : List D) (xs : List V) (kz : List D), Rs G F ds xs → ∃ ps : List ((D × V) × D), (ps.map fun q => (q.1.1, q.2)) = ds.zip kz ∧ (ps.map fun q => (q.1.2, q.2)) = xs.zip kz ∧ ∀ q ∈ ps, R G F q.1.1 q.1.2 := by
    intro ds
    induction ds with
    | nil => intro xs kz r; cases r; exact ⟨[], by simp, by simp, fun q h => nomatch h⟩
    | cons d ds ih =>
      intro xs kz r
      cases r with
      | cons q t =>
        cases kz with
        | nil => exact ⟨[], by simp, by simp, fun q h => nomatch h⟩
        | cons k kz =>
          obtain ⟨ps, h1, h2, h3⟩ := ih _ kz t
          refine ⟨((d, _), k) :: ps, by simp [h1], by simp [h2]; rfl, fun z hz => ?_⟩
          rcases List.mem_cons.mp hz with rfl | hz
          · exact q
          · exact h3 z hz
  obtain ⟨ps, h1, h2, h3⟩ := key ds xs kz r
  have e1 : sortKL ds kz = (ps.mergeSort (dataLe false Prod.snd)).map fun q => q.1.1 := by
    unfold sortKL
    rw [← h1, ← List.map_mergeSort (r := dataLe false Prod.snd) (s := dataLe false Prod.snd) (f := fun q : (D × V) × D => (q.1.1, q.2)) (l := ps) (fun _ _ _ _ => rfl), List.map_map]
    rfl
  have e2 : srtK xs kz = (ps.mergeSort (dataLe false Prod.snd)).map fun q => q.1.2 := by
    unfold srtK
    rw [← h2, ← List.map_mergeSort (r := dataLe false Prod.snd) (s := dataLe false Prod.snd) (f := fun q : (D × V) × D => (q.1.2, q.2)) (l := ps) (fun _ _ _ _ => rfl), List.map_map]
    rfl
  rw [e1, e2]
  have : ∀ qs : List ((D × V) × D), (∀ q ∈ qs, R G F q.1.1 q.1.2) → Rs G F (qs.map fun q => q.1.1) (qs.map fun q => q.1.2) := by
    intro qs
    induction qs with
    | nil => intro _; exact .nil
    | cons q qs ih => intro h; exact .cons (h q (.head _)) (ih fun z hz => h z (.tail _ hz))
  exact this _ fun q hq => h3 q (List.mem_mergeSort.mp hq)
theorem grow_of {ρ : EV} (h0 : ρ = []) {σ : L2.St} (s : Stp G F H ρ F' H' ρ σ) : Grow F H F' H' := ⟨s.fr, s.env.same, s.new, fun a o h => s.keep a o h fun i w => by obtain ⟨⟨d, q⟩, _⟩ := w; subst h0; simp at q⟩
theorem env0 (s : Same F H) : EnvR G F H [] [] := ⟨s, rfl, fun i d h => by simp at h, fun i d h => by simp at h, fun i j a w => by obtain ⟨⟨d, q⟩, _⟩ := w; simp at q⟩
theorem spF_one {mf : Mf} {d y : D} {x : V} {as : EV} {Q : VK} (s : Same F H) (rx : R G F d x) (h : mf [some (.val d)] = .ok (.val y, as)) (q : ∀ F' H' v, Grow F H F' H' → R G F' y v → Q v H') : SpF G mf [x] H Q E0 := by
  refine call_ok (F := F) (ρ := []) (σ := []) (rs := [.val d]) (env0 s) (.cons (by simp) (show ResR G H F H [] [] (.val d) x from rx) .nil) ?_
  have e1 : callF mf [] [.val d] = .ok (.val y, wb [] [.val d] as) := by
    unfold callF
    rw [if_pos (by rfl)]
    show (match mf [some (.val d)] with | .ok (.ref _, _) => Out.bad | .ok (r, as) => .ok (r, wb [] [.val d] as) | .ex c f as => .ex c f (wb [] [.val d] as) | .bad => .bad) = _
    rw [h]
  rw [e1]
  have e2 : wb [] [.val d] as = [] := by
    have : (wb [] [.val d] as).length = ([] : EV).length := by
      unfold wb; simp
    exact List.eq_nil_of_length_eq_zero this
  rw [e2]
  exact fun F' H' v st r => q F' H' v (grow_of rfl st) r
theorem v_sortKF {mf : Mf} : Op1 G (rSortKF G.K (SpF G mf)) (sortKD mf) := fun F H d x Q s rx h => by
  cases d <;> first | exact h.elim | skip
  rename_i ds
  obtain ⟨a, xs, rfl, q, r⟩ := rx
  unfold sortKD at h
  dsimp only at h
  cases hk : keysM mf ds with
  | none => rw [hk] at h; exact h.elim
  | some kz =>
  rw [hk] at h
  dsimp only at h
  by_cases c : okSort kz = true
  rotate_left
  · rw [if_neg c] at h; exact h.elim
  rw [if_pos c] at h
  have hl := keysM_len hk
  have hx := r.length
  refine ⟨a, xs, kz, fun i ys H' => ∃ F', Grow F H F' H' ∧ Rs G F' (kz.take i) ys, rfl, .of q, by omega, ⟨F, .refl s, by rw [List.take_zero]; exact .nil⟩, fun i x ys H' hi hj => ?_, fun ys H' hj => ?_⟩
  · obtain ⟨F', g, rk⟩ := hj
    obtain ⟨d, hd, rd⟩ := r.get hi
    obtain ⟨y, as, hy, hm⟩ := keysM_at hk hd
    refine spF_one g.sub (R.mono g.fr rd) hm fun F2 H2 v g2 rv => ⟨F2, g.trans g2, ?_⟩
    rw [List.take_add_one, hy]
    exact (rk.mono g2.fr).append (.cons rv .nil)
  · obtain ⟨F', g, rk⟩ := hj
    rw [List.take_of_length_le (by omega)] at rk
    refine ⟨okSort_ok g.sub c rk, fun p n => ?_⟩
    have h2 : okS G F' H' Q (some (.own (.list (sortKL ds kz)))) := fun F2 H2 v g2 sv => h F2 H2 v (g.trans g2) (by
      obtain ⟨a2, e1, e2, e3, e4⟩ := sv
      refine ⟨a2, e1, e2, ?_, e4⟩
      cases e : H a2 with
      | none => rfl
      | some o => rw [g.keep _ _ e] at e3; cases e3)
    exact okS_list g.sub h2 ((r.mono g.fr).pairs kz hl) n
theorem se_sortK {k : Nat} {mf : Mf} {x : Str} (C : Cw X K E kk) (h : Fd X.prog X.w K X.mg X.base cl x k mf [] []) (hm : X.mg "sorted" = none) (ha : SE X K cl E e te me) (hk : k + 2 ≤ kk := by decide) (hg : Gl X "sorted" := by rfl) (hgx : Gl X x := by rfl) (hdx : (x == ("__debug__" : Str)) = false := by decide)
    (hst : starEach (e :: []) X.env = (false, eval e X.env) :: starEach [] X.env := by rfl) (he : backTo pos (starEach (e :: []) X.env) = (false, eval e X.env) :: backTo pos (starEach [] X.env) := by rfl) (hpl : (backTo pos (starEach (e :: []) X.env)).any (·.1) = false := by rfl)
    (hall : (backToKw pos (keywordEach [⟨some (Str.ofString "key"), .Name x fpos, kpos⟩] X.env)).all (·.1.isSome) = true := by rfl) (hnone : (backToKw pos (keywordEach [⟨some (Str.ofString "key"), .Name x fpos, kpos⟩] X.env)).any (·.1.isNone) = false := by rfl) (hks : (backToKw pos (keywordEach [⟨some (Str.ofString "key"), .Name x fpos, kpos⟩] X.env)).filterMap (·.1) = [Str.ofString "key"] := by rfl) :
    SE X K cl E (.Call (.Name "sorted" p) [e] [⟨some (Str.ofString "key"), .Name x fpos, kpos⟩] pos) (tUn (rSortKF K (SpF ⟨K, cl⟩ mf)) te) (m1 (sortKD mf) me) := by
  have hu := C.u64
  obtain ⟨kq, room, gd, calm, pass⟩ := C
  subst kq
  obtain ⟨f, fd, ps, ds, F, hmf, hkp, hb, hd, hdd⟩ := h.ex
  cases hd
  refine ⟨⟨fun pins s σ H Q I q => ?_⟩, md_1 (v_sortKF (G := ⟨X.K, cl⟩)) ha.2⟩
  have hpa : PA X [e] (tCons te tNil) := pa_cons ha.1 pa_nil hst
  have hpk : PK X [⟨some (Str.ofString "key"), .Name x fpos, kpos⟩] (tCons (tC (.ref f)) tNil) := pk_cons (pe_glob hgx hmf (v := .ref f) rfl hdx) pk_nil
  refine wpAny_Call_Name_kw (ld_blt I hg hm (u := .builtin "sorted") (by first | rfl | decide +kernel) ?_ (by decide) (by decide))
  refine PyProof.Rows.callWith_kw (thn (hpa.run pos pins s σ H (fun vs H1 => match vs with | [y] => rSortKF X.K (SpF ⟨X.K, cl⟩ mf) y H1 Q | _ => False) I q) fun us s1 ⟨vs, H1, I1, r1, q0⟩ => ?_) he hpl hall hnone
  match vs, q0, r1 with
  | [y], q1, r1 =>
  refine thn (hpk.run pos pins s1 σ H1 (fun zs H2 => zs = [.ref f] ∧ rSortKF X.K (SpF ⟨X.K, cl⟩ mf) y H2 Q) I1 ⟨rfl, q1⟩) fun ws s2 ⟨zs, H2, I2, r2, ez, q2⟩ => ?_
  subst ez
  obtain ⟨w1, rfl, e1⟩ := vals1 r2
  obtain rfl : w1 = Value.ref f := e1
  rw [hks]
  exact cr_sortedF F (room.mono hk) gd hb hu pins s2 σ H2 y us Q I2 r1 q2
end
end Fr
namespace Fr
open PySem L2
/-! ### Base.__init__(self, text), Base a class of the program over ValueError -/
structure BaseI (K : PySem.W.Frag) (RC : Addr) (mc : Value) : Prop where
  rd : PySem.W.readsIn K RC mc = true
  at_ : PySem.W.findCls K (.ref RC) mc "__init__" = some (.val (.builtin "ValueError.__init__"))
  ga : PySem.W.specialIn K (.ref RC) "__getattribute__" = some (some (.builtin "type.__getattribute__"))
section
variable {X : Cx} {e : Expr} {es : List Expr} {ta : TA} {p p1 p2 pos : Pos} {x : Str} {RC : Addr} {mc : Value}
theorem pe_reinit {pl : Sem Bool} (hg : Gl X x) (hm : X.mg x = some (.ref RC)) (B : BaseI X.K RC mc) (ha : PA X (e :: es) ta) (hdb : (x == ("__debug__" : Str)) = false := by decide)
    (hc : eval (.Call (.Attribute (.Name x p1) "__init__" p2) (e :: es) [] pos) X.env = (do
      let ov ← eval (.Name x p1) X.env
      standAt p2.atName
      let (f, first) ← holding [ov] (getMethod ov "__init__" pl)
      callWith pos f first (backTo pos (starEach (e :: es) X.env)) (backToKw pos (keywordEach [] X.env))) := by rfl)
    (he : starEach (e :: es) X.env = (false, eval e X.env) :: starEach es X.env := by rfl) (hpl : (backTo pos (starEach es X.env)).any (·.1) = false := by rfl) :
    PE X (.Call (.Attribute (.Name x p1) "__init__" p2) (e :: es) [] pos) (tVeI X.K ta) := by
  refine ⟨fun pins s σ H Q I h => ?_⟩
  refine PySem.W.methodCall_KW (ld_glob I hg hm ?_ hdb) hc
  refine PySem.W.method_cls I.kIn B.ga (PySem.W.cls_value I.kIn B.rd B.at_ (by decide +kernel) ?_)
  show wpAny _ _ (callWith pos (Value.builtin "ValueError.__init__") [] (backTo pos (starEach (e :: es) X.env)) []) _ _ _
  refine PyProof.Rows.callWith_method1 (thn (ha.run pos pins _ σ H _ (I.tok _) h) fun us s1 ⟨vs, H1, I1, r1, a, C, ws, ev, hl, T, ea, q⟩ => ?_) he hpl
  subst ev
  cases r1 with
  | @cons _ u0 _ ur ra rw' =>
    obtain rfl : u0 = Value.ref a := ra
    have hlen : ur.length ≤ sizeLine := by
      rw [← Paired.length rw', sizeLine_eq]
      omega
    exact oinit_ok T I1 ea hlen fun s' J => ⟨.non, H1, J, rfl, q⟩
end
/-- the promise of C.__init__(self, x): Base.__init__(self, text); self.f = x -/
def spI (K : PySem.W.Frag) (C : Addr) (f : Str) : Sp := fun vs H Q E => ∃ a v, vs = [.ref a, v] ∧ OexC K C ∧ PySem.W.findIn K (.ref C) f = some none ∧ H a = some (exo a C none) ∧ ∀ dx, H dx = none → dx ≠ a → Q .non (upd (upd H dx (exd dx [(f, v)])) a (exo a C (some dx)))
def tInit (K : PySem.W.Frag) (f txt : Str) : TS := tSeq (tDrop (tVeI K (tCons (tVar 0) (tCons (tC (.str txt)) tNil)))) (tOst K f (tVar 0) (tVar 1))
section
variable {P : Program} {w : World} {K : PySem.W.Frag} {mg : Str → Option Value} {bs : Heap}
theorem init_g {qual : Str} {st : Stmt} {fI C : Addr} {fd : FuncData} {x f txt : Str} (Fu : Fun K "__init__" qual st fI fd) (S : FnScope ["self", x] ["self", x] (defScope st))
    (hbody : ∀ (cdv : Value) (A : Around) (out : List Env) (s : Shared) (H : Hp) (E : XK), PSs (cxOf (L2.CX P w) P w K mg bs ["self", x] qual (defScope st) fI cdv A out s H E) (defBody st) (tInit K f txt)) :
    FnG P w K mg bs 1 fI fd ["self", x] (spI K C f) := by
  obtain ⟨oc, od, kV, doc, pm, an, cdv, ct, osl, rfl, lk, hcd⟩ := Fu.ex
  refine fng_of lk hcd S (fun vs H Q E h => ?_) (fun A out s H vs Q E hr hgd h => ⟨_, hbody cdv A out s H E, ?_⟩)
  · obtain ⟨a, v, rfl, _⟩ := h; rfl
  · obtain ⟨a, v, rfl, T, hno, ha, q⟩ := h
    have h0 : (L2.start ["self", x] [V.ref a, v])[0]? = some (some (V.ref a)) := rfl
    have h1 : (L2.start ["self", x] [V.ref a, v])[1]? = some (some v) := rfl
    refine ⟨_, h0, a, C, [.str txt], rfl, by simp, T, ha, ?_⟩
    exact ⟨_, h1, _, h0, a, C, rfl, T, hno, .inl ⟨ha, fun dx d1 d2 => q dx d1 d2⟩⟩
end
section
variable {X : Cx} {e : Expr} {es : List Expr} {ta : TA} {p p1 p2 pos : Pos}
/-- C(e, ..): an exception is made -/
theorem pmk_oexG {x : Str} {C fI : Addr} {k : Nat} {fd : FuncData} {ps : List Str} {sp : Sp} {ds : List Value} {dvs : List V} (T : OexC X.K C) (iC : PySem.W.findIn X.K (.ref C) "__init__" = some (some (.ref fI))) (tI : PySem.W.typeIn X.K (.ref fI) = some (.type "function"))
    (F1 : FnG X.prog X.w X.K X.mg X.base k fI fd ps sp) (hr : Room (k + 1) X.A) (hgd : X.A.guards = some []) (hb : Binds X.K fd ps ds) (hd : Vals dvs ds) (hx : Passes (L2.CX X.prog X.w) X (fun _ _ _ => False)) (hg : Gl X x) (hm : X.mg x = some (.ref C)) (ha : PA X (e :: es) ta)
    (hdb : (x == ("__debug__" : Str)) = false := by decide) (he : starEach (e :: es) X.env = (false, eval e X.env) :: starEach es X.env := by rfl) (hpl : (backTo pos (starEach es X.env)).any (·.1) = false := by rfl) :
    PMk X (.Call (.Name x p) (e :: es) [] pos) (tMkO C sp dvs ta) := by
  intro pins s σ H Q I h
  obtain ⟨nm, q, N, bs, bm, sn, sub, ab, col, dd, k0, k1, k2, k3, k5, hC, hbm⟩ := T.cls
  refine wpAny_Call_Name_kw (ld_glob I hg hm ?_ hdb)
  refine PySem.W.callWith_K (h₀ := X.base) I.ok.mod.kin T.kC (thn (ha.run pos pins s σ H _ I h) fun us s1 ⟨vs, H1, I1, r1, hz, q1⟩ => ⟨I1.kIn, ?_⟩) he hpl
  show wpAny _ _ (call (.ref C) us) _ _ _
  obtain ⟨hp, g, dr, tk, os⟩ := s1
  have hsz : hp.objs.size ≤ hp.objs.size + 1 := Nat.le_succ _
  have hn : H1 (hp.objs.size + 1) = none := I1.hok.fresh hsz
  have hq := q1 (hp.objs.size + 1) hn
  have kk : ∀ b o, hp.get? b = some o → ((hp.push (PySem.W.kdv_tup us)).push (PySem.HandSPX.excO C hp.objs.size)).get? b = some o := fun b o e => Heap.get?_push_of_some _ (Heap.get?_push_of_some _ e)
  have hget : ((hp.push (PySem.W.kdv_tup us)).push (PySem.HandSPX.excO C hp.objs.size)).get? (hp.objs.size + 1) = some (PySem.HandSPX.excO C hp.objs.size) := by heap_get
  have I2 : Inv X pins σ (upd H1 (hp.objs.size + 1) (exo (hp.objs.size + 1) C none)) ⟨(hp.push (PySem.W.kdv_tup us)).push (PySem.HandSPX.excO C hp.objs.size), g, dr, tk, os⟩ :=
    I1.laid (t' := tk) (a := hp.objs.size + 1) (o := exo (hp.objs.size + 1) C none) (h' := (hp.push (PySem.W.kdv_tup us)).push (PySem.HandSPX.excO C hp.objs.size)) kk hsz (exo_ok hget)
  have r2 : Vals (V.ref (hp.objs.size + 1) :: (vs ++ dvs)) (Value.ref (hp.objs.size + 1) :: (us ++ ds)) := .cons rfl (r1.append hd)
  have hl : (Value.ref (hp.objs.size + 1) :: us ++ ds).length = ps.length := by
    have e := r2.length
    rw [F1.len _ _ _ _ hq] at e
    exact e.symm
  have hus : us.length ≤ sizeLine := by
    rw [← Paired.length r1, sizeLine_eq]
    omega
  refine wpAny_call (PySem.HandSPX.call_own PySem.F.excBase_ValueError (fun Y => PySem.HandSPX.refsVE_contains Y bm hbm) (I1.kIn _ _ hC) (PySem.W.looks_findIn I1.kIn iC) (fun self => PySem.W.bind_fn I1.kIn self tI) hus
    (codeAny_mono (F1.run _ X.stack _ _ ⟨Value.ref (hp.objs.size + 1) :: us, []⟩ (Value.ref (hp.objs.size + 1) :: (us ++ ds)) _ _ (fun _ _ _ => False) (hr.make C us []) hgd (I2.env0.make C us []) (hb _ (Value.ref (hp.objs.size + 1) :: us) I2.kIn hl) r2 hq) fun r s' hq' => ?_))
  cases r with
  | error er => exact hx pins σ _ _ er s' I2 hq'
  | ok fl =>
    cases fl with
    | ret u =>
      obtain ⟨v, H2, os2, bare2, un2, hok2, rv, ev, d, fs, ea, ed, hd1, q2⟩ := hq'
      subst ev
      obtain ⟨h2, g2, d2, t2, os'⟩ := s'
      exact ⟨rv, mk_end (raises_own T.exC T.tyC) I1 hsz kk un2 hok2 os2 bare2 ea ed hd1 q2⟩
    | next => exact False.elim hq'
    | brk => exact False.elim hq'
    | cont => exact False.elim hq'
end
/-! ### raise C(e) -/
/-- what the class c of the program is, an exception with the field f -/
structure ExcF (K : PySem.W.Frag) (mg : Str → Option Value) (bs : Heap) (P : Program) (w : World) (C : Addr) (c f : Str) (fI : Addr) : Prop where
  nm : mg c = some (.ref C)
  cls : OexC K C
  ini : PySem.W.findIn K (.ref C) "__init__" = some (some (.ref fI))
  ty : PySem.W.typeIn K (.ref fI) = some (.type "function")
  no : PySem.W.findIn K (.ref C) f = some none
  fn : ∃ fd x, FnG P w K mg bs 1 fI fd ["self", x] (spI K C f) ∧ Binds K fd ["self", x] []
def sRaise (c f : Str) (m : EV → Out (Rv × EV)) : EV → Out (Fl × EV) := fun ρ => (fzO (m ρ)).bind fun x => match x.1 with
  | .val d => .ex c [(.str f, d)] x.2
  | _ => .bad
def tRaise (K : PySem.W.Frag) (C : Addr) (f : Str) (E : XK) (te : TE) : TS := fun _ σ H => tMkO C (spI K C f) [] (tCons te tNil) σ H fun cls d H' => E cls d H'
section
variable {X : Cx} {K : PySem.W.Frag} {cl : Str → Addr} {E : XK} {kk np : Nat} {e : Expr} {te : TE} {me : EV → Out (Rv × EV)} {p pos pos' : Pos} {c f : Str} {fI : Addr}
theorem ss_raise1 (C : Cw X K E (kk + 2)) (tk : Takes X (fun cls d _ H => E cls d H)) (T : ExcF K X.mg X.base X.prog X.w (cl c) c f fI) (hx : Passes (L2.CX X.prog X.w) X (fun _ _ _ => False)) (he : SE X K cl E e te me)
    (hg : Gl X c := by rfl) (hdb : (c == ("__debug__" : Str)) = false := by decide) (hs : starEach (e :: []) X.env = (false, eval e X.env) :: starEach [] X.env := by rfl) (hpl : (backTo pos (starEach [] X.env)).any (·.1) = false := by rfl) :
    SS X K cl E np (.Raise (some (.Call (.Name c p) [e] [] pos)) none pos') (tRaise K (cl c) f E te) (sRaise c f me) := by
  obtain ⟨h1, h2⟩ := he
  obtain ⟨kq, room, gd, calm, pass⟩ := C
  subst kq
  obtain ⟨fd, x, hF, hb⟩ := T.fn
  refine ⟨ps_raise calm tk (pmk_oexG T.cls T.ini T.ty hF (room.mono (by omega)) gd hb .nil hx hg T.nm (pa_cons h1 pa_nil hs) hdb hs hpl), fun A F H ρ σ Dn hn s q => ?_⟩
  show te σ H _
  refine h2.fz.thenS s q fun F1 H1 ρ1 r v s1 t1 rr p1 => ?_
  cases r with
  | own d => exact p1.elim
  | ref i => exact p1.elim
  | val d =>
    refine ⟨by simp, fun a ha => ⟨a, v, rfl, T.cls, T.no, upd_same, fun dx d1 d2 => ⟨rfl, dx, [(f, v)], ?_, ?_, ?_, ?_⟩⟩⟩
    · rw [upd_same]
    · rw [upd_ne d2, upd_same]
    · rwa [upd_ne d2] at d1
    · have d1' : H1 dx = none := by rwa [upd_ne d2] at d1
      have e1 : upd (L2.del (upd (upd (upd H1 a (exo a (cl c) none)) dx (exd dx [(f, v)])) a (exo a (cl c) (some dx))) a) dx (.xd [(f, v)]) = upd H1 dx (.xd [(f, v)]) := by
        funext b
        unfold upd L2.del
        by_cases q1 : b = dx
        · rw [if_pos q1, if_pos q1]
        · rw [if_neg q1, if_neg q1]
          by_cases q2 : b = a
          · rw [if_pos q2, q2, ha]
          · rw [if_neg q2]
            dsimp only
            rw [if_neg q2, if_neg q1, if_neg q2]
      rw [e1]
      have g := Grow.beside (o := HO.xd [(f, v)]) s1.env.same d1'
      have rr : R ⟨X.K, cl⟩ F1 d v := rr
      exact p1 F1 _ σ (.ref (cl c)) (some dx) (s1.grow g) ⟨rfl, .inr ⟨dx, [(f, v)], rfl, upd_same, .cons rr .nil⟩⟩
end
end Fr
namespace Fr
open PySem L2
/-! ### try: .. except C as e: return .. -/
/-- what is wished of what is raised in a try's body, whatever the slots hold -/
def EX (n : Nat) (W : WX) : XK := fun cls d H => ∀ σ : St, σ.length = n → W cls d σ H
theorem takes_len {X : Cx} {W : WX} (tk : Takes X W) : Takes X (fun cls d σ H => σ.length = X.N.length → W cls d σ H) := fun u s' ⟨a, B, sI, pins, σ, H, cls, d, e, I, nb, up, sky, na, os, ag, w⟩ =>
  tk u s' ⟨a, B, sI, pins, σ, H, cls, d, e, I, nb, up, sky, na, os, ag, w I.len⟩
theorem Cw.tr {X : Cx} {K : PySem.W.Frag} {E : XK} {kk : Nat} (C : Cw X K E kk) {pn : List (Addr × Obj)} {xe : Value → Shared → Prop} {W : WX} (tk : Takes (X.tr pn xe) W) : Cw (X.tr pn xe) K (EX X.N.length W) kk :=
  ⟨C.kq, C.room, C.gd, C.calm, passes_call (takes_len tk) fun cls d σ H h => h σ⟩
section
variable {X : Cx} {K : PySem.W.Frag} {cl : Str → Addr} {i : Nat} {cN : Str} {e : Expr} {es : List Expr} {pos p : Pos}
def fld1 (f : Str) : List (D × D) → Option D
  | [(.str g, y)] => if g = f then some y else none
  | _ => none
def tupO (o : Option (List D)) : Option D := o.bind fun ys => if stD ys = false ∧ ys.length ≤ 1000 then some (.tuple ys) else none
/-! the statement -/
def tTry (K : PySem.W.Frag) (n i : Nat) (cV : Value) (ts : Addr → Value → Option Addr → TS) (E : XK) (tb : WX → TS) : TS := fun D σ H => σ.length = n → tb (wAs K cV i ts (fun cls d _ H => E cls d H) D) D σ H
end
end Fr
namespace Fr
open PySem L2 PyProof.Rows
/-! ### an exception in the hand of a handler: isinstance, tests, lists -/
/-- what the class D must say -/
structure ExcE (K : PySem.W.Frag) (D : Addr) : Prop where
  ga : PySem.W.findIn K (.ref D) "__getattribute__" = some (some (.builtin "BaseException.__getattribute__"))
  gt : PySem.W.findIn K (.ref D) "__getattr__" = some none
  su : PySem.W.subIn K (.ref D) (.type "BaseException") = some true
  hd : PySem.W.hasDictIn K D = true
  cl : PySem.W.findIn K (.ref D) "__class__" = some (some (.builtin "object.__class__"))
  gg : PySem.W.specialIn K (.builtin "object.__class__") "__get__" = some (some (.builtin "getset_descriptor.__get__"))
  tk : PySem.W.takesIn K (.builtin "object.__class__") = some true
  mr : PySem.W.mroIn K D (.type "object") = some true
end Fr
namespace Fr
open PySem L2
/-! ### lists that lie in a fresh list or tuple are changed at the end of a block: the frozen map of before the block comes back -/
def FrV (H : Hp) (v : V) : Prop := ∀ b, v = .ref b → H b = none
def FrVs (H : Hp) (vs : List V) : Prop := ∀ v ∈ vs, FrV H v
def Parts (H H' : Hp) (v : V) : Prop := ∃ a xs, v = .ref a ∧ (H' a = some (.lst xs) ∨ H' a = some (.tup xs)) ∧ FrVs H xs ∧ V.ref a ∉ xs
def OkcX (G : Gx) (F H : Hp) (σ : St) (ρ : EV) (Q : VK) : Rv × EV → Prop := fun x => ∀ F' H' v, Stp G F H ρ F' H' x.2 σ → ResR G H F' H' x.2 σ x.1 v → Parts H H' v → Q v H'
def MdX (G : Gx) (E : XK) (t : TE) (m : EV → Out (Rv × EV)) : Prop := ∀ F H ρ σ Q, EnvR G F H ρ σ → PostG (OkcX G F H σ ρ Q) (XC G E F H σ ρ) (m ρ) → t σ H Q
def OkcAX (G : Gx) (F H : Hp) (σ : St) (ρ : EV) (Q : List V → Hp → Prop) : List Rv × EV → Prop := fun x => ∀ F' H' vs, Stp G F H ρ F' H' x.2 σ → ResRs G F' H' x.2 σ x.1 vs → FrVs H vs → Q vs H'
def MdAX (G : Gx) (E : XK) (t : TA) (m : EV → Out (List Rv × EV)) : Prop := ∀ F H ρ σ Q, EnvR G F H ρ σ → PostG (OkcAX G F H σ ρ Q) (XC G E F H σ ρ) (m ρ) → t σ H Q
def SEX (X : Cx) (K : PySem.W.Frag) (cl : Str → Addr) (E : XK) (e : Expr) (t : TE) (m : EV → Out (Rv × EV)) : Prop := PE X e t ∧ MdX ⟨K, cl⟩ E t m
def SAX (X : Cx) (K : PySem.W.Frag) (cl : Str → Addr) (E : XK) (es : List Expr) (t : TA) (m : EV → Out (List Rv × EV)) : Prop := PA X es t ∧ MdAX ⟨K, cl⟩ E t m
def okX : Rv → Bool
  | .own (.list _) => true
  | .val (.str _) => true
  | _ => false
def ownX (a : EV → Out (Rv × EV)) : EV → Out (Rv × EV) := fun ρ => (a ρ).bind fun x => if okX x.1 = true then .ok x else .bad
section
variable {G : Gx} {E : XK} {X : Cx} {K : PySem.W.Frag} {cl : Str → Addr} {ta tb tc : TE} {ma mb mc : EV → Out (Rv × EV)} {a b c e : Expr} {es : List Expr} {pos : Pos} {F H F' H' : Hp} {ρ ρ' : EV} {σ : St} {np : Nat}
theorem md_ownX (h : Md G E ta ma) {Q : VK} (e : EnvR G F H ρ σ) (p : PostG (fun x => ∀ F' H' v, Stp G F H ρ F' H' x.2 σ → ResR G H F' H' x.2 σ x.1 v → FrV H v → Q v H') (XC G E F H σ ρ) (fzO (ownX ma ρ))) : ta σ H Q := by
  refine h F H ρ σ Q e ?_
  revert p
  unfold ownX
  cases ma ρ with
  | bad => exact id
  | ex c f ρ' => exact id
  | ok x =>
    obtain ⟨r, ρ'⟩ := x
    cases r with
    | ref i => exact fun p => p.elim
    | val d =>
      cases d with
      | str z => exact fun p F' H' v s r => p F' H' v s r (fun b q => by subst q; cases r)
      | _ => exact fun p => p.elim
    | own d =>
      cases d with
      | list ds =>
        intro p F' H' v s ⟨a, ev, f, n, o⟩
        obtain ⟨x, hx, r⟩ := o.frozen f
        subst ev
        refine p (upd F' a x) H' (.ref a) ⟨s.fr.trans (same_upd f), s.env.freeze hx f ?_, ?_, s.keep, s.mode⟩ r (fun b q => by injection q with q; subst q; exact n)
        · intro i w
          obtain ⟨y, hy⟩ := e.there ((s.ow i).mp w)
          rw [n] at hy; cases hy
        · intro b y z
          by_cases q : b = a
          · subst q; exact .inr (.inl n)
          · rw [upd_ne q] at z; exact s.new b y z
      | _ => exact fun p => p.elim
theorem sax_nil : SAX X K cl E [] tNil aNil := ⟨pa_nil, fun F H ρ σ Q e p => p F H [] (.refl e) .nil (fun _ h => by cases h)⟩
theorem fzO_ref {x : Out (Rv × EV)} {r : Rv} {ρ' : EV} (h : fzO x = .ok (r, ρ')) : ∀ d, r ≠ .own d := by
  intro d q
  subst q
  cases x with
  | ok y => obtain ⟨r, ρ1⟩ := y; cases r <;> (simp only [fzO, fz] at h; cases h)
  | ex _ _ _ => cases h
  | bad => cases h
theorem mdAX_cons {t : TA} {m : EV → Out (List Rv × EV)} (ha : Md G E ta ma) (hr : MdAX G E t m) : MdAX G E (tCons ta t) (aCons (ownX ma) m) := fun F H ρ σ Q e p => by
  refine md_ownX ha e ?_
  unfold aCons at p
  rw [post_bind] at p
  revert p
  cases q : fzO (ownX ma ρ) with
  | bad => exact fun p => p
  | ex c f ρ' => exact fun p => p
  | ok x =>
    intro p F1 H1 v s r fv
    have hx := fzO_ref (r := x.1) (ρ' := x.2) q
    refine hr F1 H1 x.2 σ _ s.env ?_
    have p1 := (post_bind _ _).mp (show PostG (OkcAX G F H σ ρ Q) (XC G E F H σ ρ) _ from p)
    refine PostG.imp p1 (fun y z F2 H2 vs s2 r2 f2 => ?_) fun _ _ _ z => z.step s
    refine z F2 H2 (v :: vs) (s.trans s2) (.cons hx ((r.step s2 hx).hb hx) r2) ?_
    intro w hw
    rcases List.mem_cons.mp hw with rfl | hw
    · exact fv
    · exact fun b q => s.none e (f2 w hw b q)
theorem sax_cons {t : TA} {m : EV → Out (List Rv × EV)} (ha : SE X K cl E e ta ma) (hr : SAX X K cl E es t m) (hs : starEach (e :: es) X.env = (false, eval e X.env) :: starEach es X.env := by rfl) : SAX X K cl E (e :: es) (tCons ta t) (aCons (ownX ma) m) :=
  ⟨pa_cons ha.1 hr.1 hs, mdAX_cons ha.2 hr.2⟩
theorem Rs.notin {ds : List D} {vs : List V} {a : Addr} (r : Rs G F ds vs) (n : F a = none) (hd : ds.all (fun d => match d with | .list _ => true | .str _ => true | _ => false) = true) : V.ref a ∉ vs := by
  intro m
  obtain ⟨i, hi⟩ := List.mem_iff_getElem?.mp m
  obtain ⟨d, h1, h2⟩ := r.get hi
  have h3 := List.all_eq_true.mp hd d (List.mem_of_getElem? h1)
  cases d <;> first | (cases h3; done) | skip
  · cases h2
  · cases h2 with
    | lst hh _ => rw [n] at hh; cases hh
def lstr (ds : List D) : Bool := ds.all (fun d => match d with | .list _ => true | .str _ => true | _ => false)
def mTupX (as : EV → Out (List Rv × EV)) : EV → Out (Rv × EV) := fun ρ => (as ρ).bind fun x => match mTup.vals x.1 with
  | some ds => if ds.length ≤ sizeLine ∧ lstr ds = true ∧ stD ds = false then .ok (.val (.tuple ds), x.2) else .bad
  | none => .bad
theorem mdX_tup {t : TA} {m : EV → Out (List Rv × EV)} (ha : MdAX G E t m) : MdX G E (tTup t) (mTupX m) := fun F H ρ σ Q e p => by
  refine ha F H ρ σ _ e ?_
  unfold mTupX at p
  rw [post_bind] at p
  refine PostG.imp p (fun x p1 F1 H1 vs s rr fv => ?_) fun _ _ _ z => z
  revert p1
  cases q : mTup.vals x.1 with
  | none => exact False.elim
  | some ds =>
    dsimp only
    have r := rr.vals ds q
    by_cases hl : ds.length ≤ sizeLine ∧ lstr ds = true ∧ stD ds = false
    · rw [if_pos hl]
      intro p1
      refine ⟨by rw [r.length]; exact hl.1, fun p n => ?_⟩
      have g : Grow F1 H1 (upd F1 p (.tup vs)) (upd H1 p (.tup vs)) := .put s.env.same n
      exact p1 _ _ _ (s.trans (g.stp s.env)) (R.tup (.inl ⟨hl.2.2, upd_same⟩) (r.mono g.fr)) ⟨p, vs, rfl, .inr upd_same, fv, r.notin (s.env.same.free n) hl.2.1⟩
    · rw [if_neg hl]; exact False.elim
theorem sex_tup {x1} {t : TA} {m : EV → Out (List Rv × EV)} (h : SAX X K cl E es t m) : SEX X K cl E (.Tuple es x1 pos) (tTup t) (mTupX m) := ⟨pe_tup h.1, mdX_tup h.2⟩
/-! ### a def that returns a tuple of fresh lists -/
def OkSX (G : Gx) (A : An) (Dn : Ends) : Fl × EV → Prop := fun x => match x.1 with
  | .next => ∀ F' H' σ', StI G A F' H' x.2 σ' → Dn.nx σ' H'
  | .brk => ∀ F' H' σ', StI G A F' H' x.2 σ' → Dn.bk σ' H'
  | .cont => ∀ F' H' σ', StI G A F' H' x.2 σ' → Dn.ct σ' H'
  | .ret r => ∀ F' H' σ' v, StI G A F' H' x.2 σ' → RetR G A F' H' r v → Parts A.H0 H' v → Dn.rt v H'
def MsX (G : Gx) (E : XK) (np : Nat) (t : TS) (m : EV → Out (Fl × EV)) : Prop :=
  ∀ A F H ρ σ Dn, A.as.length = np → StI G A F H ρ σ → PostG (OkSX G A Dn) (XS G E A) (m ρ) → t Dn σ H
def SSX (X : Cx) (K : PySem.W.Frag) (cl : Str → Addr) (E : XK) (np : Nat) (s : Stmt) (t : TS) (m : EV → Out (Fl × EV)) : Prop := PS X s t ∧ MsX ⟨K, cl⟩ E np t m
def SBX (X : Cx) (K : PySem.W.Frag) (cl : Str → Addr) (E : XK) (np : Nat) (s : List Stmt) (t : TS) (m : EV → Out (Fl × EV)) : Prop := PSs X s t ∧ MsX ⟨K, cl⟩ E np t m
variable {A : An} {t u : TS} {m n : EV → Out (Fl × EV)} {st : Stmt} {rest : List Stmt}
theorem sbx_one (h : SSX X K cl E np st t m) : SBX X K cl E np [st] t m := ⟨pss_one h.1, h.2⟩
theorem ssx_ret (h : SEX X K cl E e ta ma) : SSX X K cl E np (.Return (some e) pos) (tRet ta) (sRet np ma) := by
  obtain ⟨h1, h2⟩ := h
  refine ⟨ps_ret h1, fun A F H ρ σ Dn hn s p => ?_⟩
  refine h2 F H ρ σ _ s.env ?_
  unfold sRet at p
  rw [post_bind] at p
  revert p
  cases ma ρ with
  | bad => exact fun p => p
  | ex c f ρ' => exact fun p => xs_xc s p
  | ok x =>
    obtain ⟨r, ρ1⟩ := x
    intro p F1 H1 v t1 rr pt
    have s1 := s.stp t1
    have pt' : Parts A.H0 H1 v := by
      obtain ⟨a, xs, q1, q2, q3, q4⟩ := pt
      exact ⟨a, xs, q1, q2, fun w hw b hb => s.free (q3 w hw b hb), q4⟩
    cases r with
    | val d => exact p F1 H1 σ v s1 rr pt'
    | own d => obtain ⟨a, k1, k2, k3, k4⟩ := rr; exact p F1 H1 σ v s1 ⟨a, k1, k2, s.free k3, k4⟩ pt'
    | ref i =>
      obtain ⟨k1, d, k2⟩ := rr
      have p1 : PostG (OkSX ⟨K, cl⟩ A Dn) (XS ⟨K, cl⟩ E A) (if i < np then Out.bad else match ρ1[i]? with
        | some (some (.own d)) => .ok (.ret (.own d), ρ1)
        | _ => .bad) := p
      by_cases hi : i < np
      · rw [if_pos hi] at p1; exact p1.elim
      · rw [if_neg hi] at p1
        simp only [k2] at p1
        obtain ⟨a, z1, z2, z3⟩ := s1.env.own i d k2
        rw [k1] at z1
        injection z1 with z1; injection z1 with z1
        subst z1
        refine p1 F1 H1 σ _ s1 ⟨a, rfl, z2, ?_, z3⟩ pt'
        rcases s1.loc i a ⟨⟨d, k2⟩, k1⟩ with ⟨⟨x, w1⟩, w2⟩ | w
        · exact (hi (hn ▸ (List.getElem?_eq_some_iff.mp w1).1)).elim
        · exact w
def SpX (G : Gx) (mf : Mf) : Sp := fun vs H Q E => ∃ F as, EnvR G F H as (vs.map some) ∧ (∀ x ∈ as, x ≠ none) ∧ PostG (OkcX G F H (vs.map some) as Q) (XC G E F H (vs.map some) as) (mf as)
theorem callX_ok {rs : List Rv} {vs : List V} {mf : Mf} {Q : VK} (e : EnvR G F H ρ σ) (h : ResRs G F H ρ σ rs vs) (p : PostG (OkcX G F H σ ρ Q) (XC G E F H σ ρ) (callF mf ρ rs)) : SpX G mf vs H Q E := by
  unfold callF at p
  revert p
  by_cases n : ndR rs = true
  · rw [if_pos n]
    intro p
    obtain ⟨ec, hn⟩ := h.env e n
    refine ⟨F, _, ec, hn, ?_⟩
    revert p
    cases mf (rs.map (argOf ρ)) with
    | bad => exact id
    | ex c f as => exact fun p F' H' cls dd s x => p F' H' cls dd (h.back e n s) x
    | ok x =>
      obtain ⟨r, as⟩ := x
      cases r with
      | ref i => exact False.elim
      | val d => exact fun p F' H' v s r q => p F' H' v (h.back e n s) r q
      | own d => exact fun p F' H' v s r q => p F' H' v (h.back e n s) r q
  · rw [if_neg n]; exact False.elim
theorem mdX_fn {mf : Mf} {dds : List D} {dvs : List V} {t : TA} {m : EV → Out (List Rv × EV)} (hd : ∀ F, Rs G F dds dvs) (ha : MdA G E t m) : MdX G E (tCall (SpX G mf) dvs E t) (mFn mf dds m) := fun F H ρ σ Q e p => by
  refine ha F H ρ σ _ e ?_
  unfold mFn at p
  rw [post_bind] at p
  refine PostG.imp p (fun x p1 F1 H1 vs s rr => ?_) fun _ _ _ z => z
  refine callX_ok s.env (rr.more (hd F1)) (PostG.imp p1 (fun y q F' H' v s' r pt => ?_) fun _ _ _ q => q.step s)
  refine q F' H' v (s.trans s') (ResR.back (F1 := F) (H1 := H) (fun a z => s.none e z) r) ?_
  obtain ⟨a, xs, q1, q2, q3, q4⟩ := pt
  exact ⟨a, xs, q1, q2, fun w hw b hb => s.none e (q3 w hw b hb), q4⟩
structure FdX (P : Program) (w : World) (K : PySem.W.Frag) (mg : Str → Option Value) (bs : Heap) (cl : Str → Addr) (x : Str) (k : Nat) (mf : Mf) (dds : List D) (dvs : List V) : Prop where
  ex : ∃ (f : Addr) (fd : FuncData) (ps : List Str) (ds : List Value), FnG P w K mg bs k f fd ps (SpX ⟨K, cl⟩ mf) ∧ mg x = some (.ref f) ∧ PySem.W.keepIn K (.ref f) = true ∧ Binds K fd ps ds ∧ Vals dvs ds ∧ ∀ F, Rs ⟨K, cl⟩ F dds dvs
theorem sex_fn {kk k : Nat} {mf : Mf} {dds : List D} {dvs : List V} {x : Str} {p : Pos} {t : TA} {m : EV → Out (List Rv × EV)} (C : Cw X K E kk) (h : FdX X.prog X.w K X.mg X.base cl x k mf dds dvs) (ha : SA X K cl E (e :: es) t m) (hk : k ≤ kk := by decide) (hg : Gl X x := by rfl) (hdb : (x == ("__debug__" : Str)) = false := by decide)
    (he : starEach (e :: es) X.env = (false, eval e X.env) :: starEach es X.env := by rfl) (hpl : (backTo pos (starEach es X.env)).any (·.1) = false := by rfl) :
    SEX X K cl E (.Call (.Name x p) (e :: es) [] pos) (tCall (SpX ⟨K, cl⟩ mf) dvs E t) (mFn mf dds m) := by
  obtain ⟨kq, room, gd, calm, pass⟩ := C
  subst kq
  obtain ⟨f, fd, ps, ds, F, hm, kp, b, hd, hdd⟩ := h.ex
  exact ⟨peg_call F (room.mono hk) gd hg hm kp b hd pass ha.1 hdb he hpl, mdX_fn hdd ha.2⟩
end
section
variable {P : Program} {w : World} {K : PySem.W.Frag} {mg : Str → Option Value} {bs : Heap} {cl : Str → Addr}
def noNx (m : EV → Out (Fl × EV)) : EV → Out (Fl × EV) := fun ρ => (m ρ).bind fun x => match x.1 with
  | .ret r => .ok (.ret r, x.2)
  | _ => .bad
theorem fun_gX {x qual : Str} {st : Stmt} {f : Addr} {fd : FuncData} {N ps : List Str} {k : Nat} {mb : EV → Out (Fl × EV)} (Fu : Fun K x qual st f fd) (S : FnScope N ps (defScope st))
    (hbody : ∀ (cdv : Value) (A : Around) (out : List Env) (s : Shared) (H : Hp) (E : XK), Cw (cxOf (L2.CX P w) P w K mg bs N qual (defScope st) f cdv A out s H E) K E k →
      ∃ t, SBX (cxOf (L2.CX P w) P w K mg bs N qual (defScope st) f cdv A out s H E) K cl E ps.length (defBody st) t mb) : FnG P w K mg bs (k + 1) f fd ps (SpX ⟨K, cl⟩ (runF ps.length N.length (noNx mb))) := by
  obtain ⟨oc, od, kV, doc, pm, an, cdv, ct, osl, rfl, lk, hcd⟩ := Fu.ex
  refine fng_of lk hcd S (fun vs H Q E h => ?_) (fun A out s H vs Q E hr hgd h => ?_)
  · obtain ⟨F, as, e, _, p⟩ := h
    have hl : as.length = vs.length := by have := e.len; simpa using this
    unfold runF at p
    by_cases q : as.length = ps.length
    · omega
    · rw [if_neg q] at p; exact p.elim
  · obtain ⟨F, as, e, _, p⟩ := h
    obtain ⟨t, h1, h2⟩ := hbody cdv A out s H E ⟨rfl, hr, hgd, rfl, passes_call (takes_of rfl rfl rfl rfl) fun _ _ _ _ z => z⟩
    refine ⟨t, h1, ?_⟩
    have hl : as.length = vs.length := by have := e.len; simpa using this
    unfold runF at p
    by_cases q : as.length = ps.length
    · rw [if_pos q] at p
      refine h2 ⟨F, H, as, vs⟩ F H _ _ _ q (StI.start (N := N) e) ?_
      rw [q]
      revert p
      unfold noNx
      cases mb (as ++ List.replicate (N.length - ps.length) none) with
      | bad => exact id
      | ex c fs ρ => exact fun p F' H' σ' cls dd s' x => p F' H' cls dd (s'.leave e) x
      | ok y =>
        obtain ⟨fl, ρ⟩ := y
        cases fl with
        | brk => exact False.elim
        | cont => exact False.elim
        | next => exact False.elim
        | ret r => exact fun p F' H' σ' v s' rr pt => p F' H' v (s'.leave e) (by
            cases r with
            | val d => exact rr
            | own d => exact rr
            | ref i => exact rr.elim) pt
    · rw [if_neg q] at p; exact p.elim
end
end Fr
namespace Fr
open PySem L2
section
variable {G : Gx} {E : XK} {X : Cx} {K : PySem.W.Frag} {cl : Str → Addr} {ta tb tc : TE} {ma mb mc : EV → Out (Rv × EV)} {a b c e : Expr} {es : List Expr} {pos : Pos} {F H F' H' : Hp} {ρ ρ' : EV} {σ : St} {np : Nat} {A : An} {t u : TS} {m n : EV → Out (Fl × EV)} {st : Stmt} {rest : List Stmt}
/-! ### x[k].append(z) -/
def tApp (K : PySem.W.Frag) (i k : Nat) (z : Str) : TS := tDrop (tBM K "list" rAppend (tOp (fun x y H Q => rIx K x y H Q ∨ rIxK x y H Q) (tVar i) (tC (.int (k : Nat)))) (tCons (tC (.str z)) tNil))
inductive Apps (X : Cx) (K : PySem.W.Frag) (i : Nat) : List Nat → List Stmt → TS → Prop
  | nil : Apps X K i [] [] tNext
  | cons {k : Nat} {z : Str} {ks : List Nat} {st : Stmt} {rest : List Stmt} {t : TS} : PS X st (tApp K i k z) → Apps X K i ks rest t → Apps X K i (k :: ks) (st :: rest) (tSeq (tApp K i k z) t)
theorem Apps.ps {i : Nat} {ks : List Nat} (h : Apps X K i ks rest t) : PSs X rest t := by
  induction h with
  | nil => exact pss_nil
  | cons h _ ih => exact pss_cons h ih
def AppI (ks : List Nat) (a : Addr) (xs : List V) (H : Hp) : Prop := (H a = some (.lst xs) ∨ H a = some (.tup xs)) ∧ ∀ k ∈ ks, ∃ b zs, xs[k]? = some (.ref b) ∧ b ≠ a ∧ H b = some (.lst zs) ∧ zs.length + ks.length ≤ sizeLine
theorem atI_dp {xs : List V} {k : Nat} {v : V} (h : xs[k]? = some v) : atI xs ((k : Nat) : Int) = some v := by
  have hk := (List.getElem?_eq_some_iff.mp h).1
  unfold atI ixN
  rw [if_pos (by omega)]
  simp [hk, (List.getElem?_eq_some_iff.mp h).2]
theorem Apps.run {i : Nat} {ks : List Nat} {a : Addr} {xs : List V} {Dn : Ends} (h : Apps X K i ks rest t) : ∀ {H : Hp}, σ[i]? = some (some (V.ref a)) → AppI ks a xs H →
    (∀ H', (∀ b, (∀ k ∈ ks, xs[k]? ≠ some (.ref b)) → H' b = H b) → Dn.nx σ H') → t Dn σ H := by
  induction h with
  | nil => exact fun _ _ q => q _ fun _ _ => rfl
  | @cons k z ks st rest t hp hr ih =>
    intro H hs I q
    obtain ⟨b, zs, h1, h2, h3, h4⟩ := I.2 k (List.mem_cons_self ..)
    refine ⟨.ref a, hs, ?_⟩
    have cont : tyV K "list" (.ref b) H ∧ tCons (tC (.str z)) tNil σ H fun ys H2 => rAppend (.ref b) ys H2 fun _ H1 => t Dn σ H1 := by
      refine ⟨.inl ⟨rfl, zs, .inl (.inl h3)⟩, b, zs, .str z, rfl, rfl, h3, by simp only [List.length_cons] at h4; omega, ?_⟩
      refine ih hs ⟨?_, fun j hj => ?_⟩ fun H' hh => ?_
      · rw [upd_ne (Ne.symm h2)]; exact I.1
      · obtain ⟨b', zs', g1, g2, g3, g4⟩ := I.2 j (List.mem_cons_of_mem _ hj)
        by_cases y : b' = b
        · subst y
          refine ⟨b', _, g1, g2, upd_same, ?_⟩
          simp only [List.length_append, List.length_cons, List.length_nil] at h4 ⊢
          omega
        · exact ⟨b', zs', g1, g2, by rw [upd_ne y]; exact g3, by simp only [List.length_cons] at g4; omega⟩
      · refine q H' fun c hc => ?_
        rw [hh c fun j hj => hc j (List.mem_cons_of_mem _ hj), upd_ne]
        intro y
        subst y
        exact hc k (List.mem_cons_self ..) h1
    rcases I.1 with w | w
    · exact .inl (.inl ⟨a, xs, k, .ref b, rfl, rfl, .inl (.inl w), atI_dp h1, cont⟩)
    · exact .inl (.inr (.inl ⟨a, xs, k, .ref b, rfl, rfl, .inl (.inl w), atI_dp h1, cont⟩))
/-! ### the block: x = e; if c: ..; x[k].append(..).. -/
def noOwn (ρ : EV) : Bool := ρ.all fun x => match x with
  | some (.own _) => false
  | _ => true
def partsD : D → List D
  | .list l => l
  | .tuple l => l
  | _ => []
end
end Fr
namespace Fr
open PySem L2 PyProof.Rows
abbrev TEx := Addr → Value → Option Addr → TE
abbrev Hm (α : Type) := Str → List (D × D) → EV → Option α
/-- the suite of a handler: e at a, of the class cls, its dict d -/
def Sui (oe : Obj) (cls : Value) (d : Option Addr) : Prop := Zc cls d oe ∧ ∃ vs, oe.data = .fields vs
/-- what is known of what was caught: its class, its fields, its slot -/
structure HK (K : PySem.W.Frag) (cl : Str → Addr) (i : Nat) (c : Str) (F H : Hp) (ρ : EV) (σ : L2.St) (a : Addr) (d : Option Addr) (fs : List (D × D)) : Prop where
  xr : XR ⟨K, cl⟩ F H c fs (.ref (cl c)) d
  en : EnvR ⟨K, cl⟩ F H ρ σ
  at_ : σ[i]? = some (some (V.ref a))
def HE (X : Cx) (K : PySem.W.Frag) (cl : Str → Addr) (i : Nat) (cs : List Str) (e : Expr) (te : TEx) (hm : Hm D) : Prop :=
  (∀ (a : Addr) (oe : Obj) (cls : Value) (d : Option Addr) (pn : List (Addr × Obj)), Sui oe cls d → PE (X.suite a ((a, oe) :: pn)) e (te a cls d)) ∧
  ∀ c ∈ cs, ∀ (F H : Hp) (ρ : EV) (σ : L2.St) (Q : VK) (a : Addr) (d : Option Addr) (fs : List (D × D)) (y : D), HK K cl i c F H ρ σ a d fs → hm c fs ρ = some y → (∀ F' H' v, Grow F H F' H' → R ⟨K, cl⟩ F' y v → Q v H') → te a (.ref (cl c)) d σ H Q
def HL' (X : Cx) (K : PySem.W.Frag) (cl : Str → Addr) (i : Nat) (cs : List Str) (es : List Expr) (te : Addr → Value → Option Addr → TA) (hm : Hm (List D)) : Prop :=
  (∀ (a : Addr) (oe : Obj) (cls : Value) (d : Option Addr) (pn : List (Addr × Obj)), Sui oe cls d → PA (X.suite a ((a, oe) :: pn)) es (te a cls d)) ∧
  ∀ c ∈ cs, ∀ (F H : Hp) (ρ : EV) (σ : L2.St) (Q : List V → Hp → Prop) (a : Addr) (d : Option Addr) (fs : List (D × D)) (ys : List D), HK K cl i c F H ρ σ a d fs → hm c fs ρ = some ys → (∀ F' H' vs, Grow F H F' H' → Rs ⟨K, cl⟩ F' ys vs → Q vs H') → te a (.ref (cl c)) d σ H Q
def HT (X : Cx) (K : PySem.W.Frag) (cl : Str → Addr) (i : Nat) (cs : List Str) (e : Expr) (tt : Addr → Value → Option Addr → TT) (hm : Hm Bool) : Prop :=
  (∀ (a : Addr) (oe : Obj) (cls : Value) (d : Option Addr) (pn : List (Addr × Obj)), Sui oe cls d → PT (X.suite a ((a, oe) :: pn)) e (tt a cls d)) ∧
  ∀ c ∈ cs, ∀ (F H : Hp) (ρ : EV) (σ : L2.St) (Q : Bool → Hp → Prop) (a : Addr) (d : Option Addr) (fs : List (D × D)) (b : Bool), HK K cl i c F H ρ σ a d fs → hm c fs ρ = some b → (∀ F' H', Grow F H F' H' → Q b H') → tt a (.ref (cl c)) d σ H Q
/-- a block that returns -/
def HB (X : Cx) (K : PySem.W.Frag) (cl : Str → Addr) (i : Nat) (cs : List Str) (b : List Stmt) (ts : Addr → Value → Option Addr → TS) (hm : Hm D) : Prop :=
  (∀ (a : Addr) (oe : Obj) (cls : Value) (d : Option Addr) (pn : List (Addr × Obj)), Sui oe cls d → PSs (X.suite a ((a, oe) :: pn)) b (ts a cls d)) ∧
  ∀ c ∈ cs, ∀ (F H : Hp) (ρ : EV) (σ : L2.St) (Dn : Ends) (a : Addr) (d : Option Addr) (fs : List (D × D)) (y : D), HK K cl i c F H ρ σ a d fs → hm c fs ρ = some y → (∀ F' H' v, Grow F H F' H' → R ⟨K, cl⟩ F' y v → Dn.rt v H') → ts a (.ref (cl c)) d Dn σ H
section
variable {X : Cx} {K : PySem.W.Frag} {cl : Str → Addr} {i : Nat} {cs : List Str} {e b : Expr} {es : List Expr} {pos p q : Pos} {c : Str} {F H F' H' : Hp} {ρ : EV} {σ : L2.St} {a : Addr} {d : Option Addr} {fs : List (D × D)}
theorem HK.grow (k : HK K cl i c F H ρ σ a d fs) (g : Grow F H F' H') : HK K cl i c F' H' ρ σ a d fs := by
  refine ⟨⟨k.xr.1, ?_⟩, k.en.grow g, k.at_⟩
  rcases k.xr.2 with h | ⟨dd, vs, h1, h2, h3⟩
  · exact .inl h
  · exact .inr ⟨dd, vs, h1, g.keep _ _ h2, h3.mono g.fr⟩
theorem fld1_some {f : Str} {fs : List (D × D)} {y : D} (h : fld1 f fs = some y) : fs = [(.str f, y)] := by
  unfold fld1 at h
  split at h
  · rename_i g y'
    by_cases hg : g = f
    · rw [if_pos hg] at h
      cases h
      rw [hg]
    · rw [if_neg hg] at h; cases h
  · cases h
/-! leaves -/
theorem he_str {z : Str} {j : Nat} : HE X K cl i cs (.Constant (.str z) j pos) (fun _ _ _ => tC (.str z)) (fun _ _ _ => some (.str z)) :=
  ⟨fun _ _ _ _ _ _ => pe_str, fun c _ F H ρ σ Q a d fs y x h q => by cases h; exact q _ _ _ (.refl x.en.same) (.str z)⟩
/-- e.f, e of the class cF -/
theorem he_fld {n f cF : Str} (T : XfC X.K (cl cF)) (hno : PySem.W.findIn X.K (.ref (cl cF)) f = some none) (hN : X.N[i]? = some n := by rfl) (hv : Vis X.env.scope n := by first | exact Or.inl rfl | exact Or.inr (Or.inl rfl) | exact Or.inr (Or.inr rfl)) (hd : (n == ("__debug__" : Str)) = false := by decide)
    (hcd : (n == ("__classdict__" : Str)) = false := by decide) (hb : attributeBase (.Name n p) f X.env (eval (.Name n p) X.env) = eval (.Name n p) X.env := by rfl) :
    HE X K cl i cs (.Attribute (.Name n p) f q) (fun a cls d => tXf a cls d (cl cF) f (tVar i)) (fun c fs _ => if c = cF then fld1 f fs else none) := by
  refine ⟨fun a oe cls d pn hz => pe_xf T hno hz.1 hz.2 (pe_var (X := X.suite a ((a, oe) :: pn)) hN hv hd hcd) hb, fun c hc F H ρ σ Q a d fs y x h q => ?_⟩
  have h : (if c = cF then fld1 f fs else none) = some y := h
  by_cases hcF : c = cF
  · subst hcF
    rw [if_pos rfl] at h
    obtain rfl := fld1_some h
    obtain ⟨_, ⟨z, _⟩ | ⟨dd, vs, rfl, hdd, r⟩⟩ := x.xr
    · cases z
    cases r with
    | cons r1 r2 =>
      cases r2
      exact ⟨_, x.at_, rfl, rfl, dd, _, _, rfl, hdd, by simp [List.lookup], q _ _ _ (.refl x.en.same) r1⟩
  · rw [if_neg hcF] at h; cases h
/-! lists, tuples -/
theorem hl_nil' : HL' X K cl i cs [] (fun _ _ _ => tNil) (fun _ _ _ => some []) :=
  ⟨fun _ _ _ _ _ _ => pa_nil, fun c _ F H ρ σ Q a d fs ys x h q => by cases h; exact q _ _ _ (.refl x.en.same) .nil⟩
theorem hl_cons' {te : TEx} {tes : Addr → Value → Option Addr → TA} {hm : Hm D} {hms : Hm (List D)} (h : HE X K cl i cs e te hm) (t : HL' X K cl i cs es tes hms) (hs : starEach (e :: es) X.env = (false, eval e X.env) :: starEach es X.env := by rfl) :
    HL' X K cl i cs (e :: es) (fun a cls d => tCons (te a cls d) (tes a cls d)) (fun c fs ρ => (hm c fs ρ).bind fun y => (hms c fs ρ).map (y :: ·)) := by
  refine ⟨fun a oe cls d pn hz => pa_cons (h.1 a oe cls d pn hz) (t.1 a oe cls d pn hz) hs, fun c hc F H ρ σ Q a d fs ys x hh q => ?_⟩
  obtain ⟨y, e1, e2⟩ := Option.bind_eq_some_iff.mp hh
  obtain ⟨ys', e3, rfl⟩ := Option.map_eq_some_iff.mp e2
  refine h.2 c hc F H ρ σ _ a d fs y x e1 fun F1 H1 v g r => ?_
  refine t.2 c hc F1 H1 ρ σ _ a d fs ys' (x.grow g) e3 fun F2 H2 vs g2 rs => ?_
  exact q F2 H2 _ (g.trans g2) (.cons (r.mono g2.fr) rs)
theorem he_tup {x1} {te : Addr → Value → Option Addr → TA} {hm : Hm (List D)} (h : HL' X K cl i cs es te hm) : HE X K cl i cs (.Tuple es x1 p) (fun a cls d => tTup (te a cls d)) (fun c fs ρ => tupO (hm c fs ρ)) := by
  refine ⟨fun a oe cls d pn hz => pe_tup (h.1 a oe cls d pn hz), fun c hc F H ρ σ Q a d fs y x hh q => ?_⟩
  have hh : tupO (hm c fs ρ) = some y := hh
  unfold tupO at hh
  obtain ⟨ys, e1, e2⟩ := Option.bind_eq_some_iff.mp hh
  by_cases c0 : stD ys = false ∧ ys.length ≤ 1000
  · rw [if_pos c0] at e2
    cases e2
    refine h.2 c hc F H ρ σ _ a d fs ys x e1 fun F1 H1 vs g rvs => ⟨?_, fun b hb => ?_⟩
    · rw [rvs.length, sizeLine_eq]; omega
    · have g2 := Grow.put (o := HO.tup vs) g.sub hb
      exact q _ _ _ (g.trans g2) (.tup (.inl ⟨c0.1, upd_same⟩) (rvs.mono g2.fr))
  · rw [if_neg c0] at e2; cases e2
/-! the bools of a list in a slot -/
end
end Fr
namespace Fr
open PySem L2 PyProof.Rows
section
variable {X : Cx} {K : PySem.W.Frag} {cl : Str → Addr} {i : Nat} {cs : List Str} {e a b : Expr} {es rest : List Expr} {pos p q : Pos}
/-! tests -/
/-! blocks -/
theorem hb_ret {te : TEx} {hm : Hm D} (h : HE X K cl i cs e te hm) : HB X K cl i cs [.Return (some e) pos] (fun a cls d => tRet (te a cls d)) hm :=
  ⟨fun a oe cls d pn hz => pss_one (ps_ret (h.1 a oe cls d pn hz)), fun c hc F H ρ σ Dn a d fs y x hh q => h.2 c hc F H ρ σ _ a d fs y x hh q⟩
/-! the statement -/
structure TryB (K : PySem.W.Frag) (mg : Str → Option Value) (cl : Str → Addr) (x : Str) (cs pass : List Str) (cV : Value) : Prop where
  nm : mg x = some cV
  yes : ∀ c ∈ cs, PySem.W.exmOne K (.ref (cl c)) cV = some true
  no : ∀ c ∈ pass, PySem.W.exmOne K (.ref (cl c)) cV = some false
end
end Fr
namespace Fr
open PySem L2 PyProof.Rows
/-! ### names for what handlers compute; facts of exception classes put together -/
def hmC (d : D) : Hm D := fun _ _ _ => some d
def hmF (cF f : Str) : Hm D := fun c fs _ => if c = cF then fld1 f fs else none
def hmNil : Hm (List D) := fun _ _ _ => some []
def hmCons (hm : Hm D) (hms : Hm (List D)) : Hm (List D) := fun c fs ρ => (hm c fs ρ).bind fun y => (hms c fs ρ).map (y :: ·)
def hmTup (hm : Hm (List D)) : Hm D := fun c fs ρ => tupO (hm c fs ρ)
section
variable {P : Program} {w : World} {K : PySem.W.Frag} {mg : Str → Option Value} {bs : Heap} {cl : Str → Addr}
theorem ExcE.xf {C : Addr} (T : ExcE K C) : XfC K C := ⟨T.ga, T.gt, T.su, T.hd⟩
end
end Fr
namespace Fr
open PySem L2 PyProof.Rows
/-! ### matches of classes, from facts that k_is answers -/
theorem exm_own {K : PySem.W.Frag} {c z : Addr} (e : PySem.W.subIn K (.ref c) (.ref z) = some true)
    (h1 : PySem.W.subIn K (.ref z) (.type "BaseException") = some true) (h2 : PySem.W.hasDictIn K z = true)
    (h3 : PySem.W.typeIn K (.ref z) = some (.type "type")) :
    PySem.W.exmOne K (.ref c) (.ref z) = some true := PySem.W.exm_ref h1 h2 h3 e
end Fr
namespace Fr
open PySem L2
section
variable {G : Gx} {E : XK} {X : Cx} {K : PySem.W.Frag} {cl : Str → Addr} {ta tb tc : TE} {ma mb mc : EV → Out (Rv × EV)} {a b c e : Expr} {es : List Expr} {pos : Pos} {F H F' H' : Hp} {ρ ρ' : EV} {σ : St} {np : Nat} {A : An} {t u : TS} {m n : EV → Out (Fl × EV)} {st : Stmt} {rest : List Stmt}
/-! ### try: return (.., fresh list) except C as e: return (.., e.f) -/
def flatT : D → Bool
  | .tuple ds => ds.all flatD && !stD ds
  | _ => false
theorem parts_flat {H0 : Hp} {y : D} {v : V} (f : flatT y = true) (s : Same F H) (r : R G F y v) : Parts H0 H v := by
  cases y <;> first | cases f | skip
  rename_i ds
  simp only [flatT, Bool.and_eq_true, Bool.not_eq_true'] at f
  obtain ⟨f1, f2⟩ := f
  cases r with
  | tup q rs =>
    rename_i a xs
    have fl := rs.flat f1
    have nr : ∀ v ∈ xs, ∀ b : Addr, v ≠ .ref b := fun v hv b e => by
      have := List.all_eq_true.mp fl v hv
      subst e
      cases this
    refine ⟨a, xs, rfl, .inr ?_, fun v hv b e => (nr v hv b e).elim, fun h => nr _ h a rfl⟩
    rcases q with ⟨_, q⟩ | ⟨h, _⟩
    · exact s _ _ q
    · rw [f2] at h; cases h
def sTryX (cs : List Str) (n : Nat) (mb : EV → Out (Fl × EV)) (hm : Hm D) : EV → Out (Fl × EV) := fun ρ => match mb ρ with
  | .ex c fs ρ' => if cs.contains c = true then (match hm c fs (List.replicate n none) with | some d => if flatT d = true then .ok (.ret (.val d), ρ') else .bad | none => .bad) else .bad
  | x => x
theorem ssx_tryB {kk : Nat} {x z : Str} {cs : List Str} {i : Nat} {body : List Stmt} {b₀ : Stmt} {suite : List Stmt} {npos pos' : Pos} {cV : Value} {tb : WX → TS} {mb : EV → Out (Fl × EV)} {ts : Addr → Value → Option Addr → TS} {hm : Hm D}
    (C : Cw X K E kk) (tk : Takes X (fun cls d _ H => E cls d H)) (T : TryB X.K X.mg cl x cs [] cV) (hs : X.stack = X.env :: X.outer) (hf : X.env.frame = some X.env.locals) (hN : X.N.Nodup) (hln : X.env.kindOf z = some .local)
    (hb : ∀ (W : WX) (pn : List (Addr × Obj)) (xe : Value → Shared → Prop), Takes (X.tr pn xe) W → Cw (X.tr pn xe) K (EX X.N.length W) kk → SBX (X.tr pn xe) K cl (EX X.N.length W) np body (tb W) mb)
    (hh : HB X K cl i cs (b₀ :: suite) ts hm) (hi : X.N[i]? = some z := by rfl) (hg : Gl X x := by rfl) (hdb : (x == ("__debug__" : Str)) = false := by decide) :
    SSX X K cl E np (.Try body [.ExceptHandler (some (.Name x npos)) (some z) (b₀ :: suite) pos'] [] [] pos) (tTry X.K X.N.length i cV ts E tb) (sTryX cs X.N.length mb hm) := by
  have t0 := ps_try_as (pos := pos) (pos' := pos') (np := npos) (tb := tb) hs hf hN hi hln ⟨hg, hdb, .inl T.nm⟩ tk (fun W pn xe tkW _ => (hb W pn xe tkW (C.tr tkW)).1) (fun a oe cls d pn h1 h2 => hh.1 a oe cls d pn ⟨h1, h2⟩)
  refine ⟨⟨fun pins s σ H D I h => t0.run pins s σ H D I (h I.len)⟩, fun A F H ρ σ Dn hn s q hlen => ?_⟩
  have kq := C.kq
  subst kq
  have tk0 : Takes (X.tr [] fun _ _ => True) (wAs X.K cV i ts (fun cls d _ H => E cls d H) Dn) := fun _ _ _ => trivial
  refine (hb _ [] (fun _ _ => True) tk0 (C.tr tk0)).2 A F H ρ σ Dn hn s ?_
  revert q
  unfold sTryX
  cases mb ρ with
  | bad => exact fun q => q
  | ok y => exact fun q => q
  | ex c fs ρ' =>
    intro q
    dsimp only at q
    show XS _ _ A c fs ρ'
    intro F' H' σ' cls dd st xr σ2 hl2
    by_cases hc : cs.contains c = true
    · rw [if_pos hc] at q
      have hcm : c ∈ cs := by simpa using hc
      obtain ⟨rfl, xr2⟩ := id xr
      refine ⟨true, T.yes c hcm, fun _ a ha => ?_, fun z => by cases z⟩
      cases hd : hm c fs (List.replicate X.N.length none) with
      | none => rw [hd] at q; exact q.elim
      | some y =>
        rw [hd] at q
        dsimp only at q
        by_cases hfl : flatT y = true
        · rw [if_pos hfl] at q
          have hi2 : i < σ2.length := by rw [hl2]; exact (List.getElem?_eq_some_iff.mp hi).1
          have none0 : ∀ (j : Nat) (z : Sl), (List.replicate X.N.length (none : Option Sl))[j]? ≠ some (some z) := fun j z w => by
            rw [List.getElem?_replicate] at w
            split at w <;> cases w
          have en : EnvR ⟨X.K, cl⟩ F' H' (List.replicate X.N.length none) (σ2.set i (some (V.ref a))) := ⟨st.env.same, by rw [List.length_replicate, List.length_set, hl2], fun j d w => (none0 j _ w).elim, fun j d w => (none0 j _ w).elim, fun j k b w => by obtain ⟨⟨d, w⟩, _⟩ := w; exact (none0 j _ w).elim⟩
          refine hh.2 c hcm F' H' _ _ _ a dd fs y ⟨xr, en, by rw [List.getElem?_set_self hi2]⟩ hd fun F'' H'' v g r => ?_
          exact q F'' H'' σ' v (st.grow g) r (parts_flat hfl (st.grow g).env.same r)
        · rw [if_neg hfl] at q; exact q.elim
    · rw [if_neg hc] at q; exact q.elim
/-! ### x[k].append(None), x[k].reverse() -/
structure MutS (X : Cx) (i k : Nat) (st : Stmt) (t : TS) : Prop where
  ps : PS X st t
  run : ∀ (Dn : Ends) (σ : St) (H : Hp) (a b : Addr) (xs zs : List V), σ[i]? = some (some (V.ref a)) → (H a = some (.lst xs) ∨ H a = some (.tup xs)) → xs[k]? = some (.ref b) → b ≠ a → H b = some (.lst zs) → zs.length < sizeLine →
    (∀ zs', zs'.length ≤ zs.length + 1 → Dn.nx σ (upd H b (.lst zs'))) → t Dn σ H
def tAppN (K : PySem.W.Frag) (i k : Nat) : TS := tDrop (tBM K "list" rAppend (tOp (fun x y H Q => rIx K x y H Q ∨ rIxK x y H Q) (tVar i) (tC (.int (k : Nat)))) (tCons (tC .non) tNil))
def tRevN (K : PySem.W.Frag) (i k : Nat) : TS := tDrop (tBM0 K "list" rReverse (tOp (fun x y H Q => rIx K x y H Q ∨ rIxK x y H Q) (tVar i) (tC (.int (k : Nat)))))
theorem mu_app {kk i k : Nat} {x : Str} {px p1 p2 p4 p5 p6 : Pos} {c1} (C : Cw X K E kk) (hN : X.N[i]? = some x := by rfl) (hv : Vis X.env.scope x := by first | exact Or.inl rfl | exact Or.inr (Or.inl rfl) | exact Or.inr (Or.inr rfl)) (hd : (x == ("__debug__" : Str)) = false := by decide) (hcd : (x == ("__classdict__" : Str)) = false := by decide)
    (hbase : attributeBase (.Subscript (.Name x px) (.Constant (.int ((k : Nat) : Int)) c1 p1) p2) "append" X.env (eval (.Subscript (.Name x px) (.Constant (.int ((k : Nat) : Int)) c1 p1) p2) X.env) = eval (.Subscript (.Name x px) (.Constant (.int ((k : Nat) : Int)) c1 p1) p2) X.env := by rfl)
    {ce : Expr} (hce : PE X ce (tC .non))
    (hfew : ((backTo p5 (starEach [ce] X.env)).all (fun x => !x.1) && (backToKw p5 (keywordEach [] X.env)).all (fun x => x.1.isSome)
      && decide ([ce].length + ([] : List Keyword).length + (if ([] : List Keyword).isEmpty then 0 else 1) < 30)) = true := by rfl)
    (hline : (p4.endLine == p5.line) = true := by rfl) (hs : starEach [ce] X.env = (false, eval ce X.env) :: starEach [] X.env := by rfl) (hplain : (backTo p5 (starEach [] X.env)).any (·.1) = false := by rfl)
    (hsw : swapsWith (.Call (.Attribute (.Subscript (.Name x px) (.Constant (.int ((k : Nat) : Int)) c1 p1) p2) "append" p4) [ce] [] p5) none p6.line X.env = pure false := by rfl) :
    MutS X i k (.Expr (.Call (.Attribute (.Subscript (.Name x px) (.Constant (.int ((k : Nat) : Int)) c1 p1) p2) "append" p4) [ce] [] p5) p6) (tAppN K i k) := by
  have r := r_ixA C
  obtain ⟨kq, _, _, _, _⟩ := C
  subst kq
  refine ⟨ps_expr (pe_bm PySem.F.plainAttrs_list PySem.F.slot_list_append PySem.F.type_list_append mt_append (pe_ix r (pe_var hN hv hd hcd) pe_int (fun _ _ => rfl)) (pa_cons hce pa_nil hs) hbase hfew hline hs hplain) hsw, fun Dn σ H a b xs zs hs ha h1 h2 h3 h4 q => ?_⟩
  refine ⟨.ref a, hs, ?_⟩
  have cont : tyV X.K "list" (.ref b) H ∧ tCons (tC .non) tNil σ H fun ys H2 => rAppend (.ref b) ys H2 fun _ H1 => Dn.nx σ H1 :=
    ⟨.inl ⟨rfl, zs, .inl (.inl h3)⟩, b, zs, .non, rfl, rfl, h3, h4, q _ (by simp)⟩
  rcases ha with w | w
  · exact .inl (.inl ⟨a, xs, k, .ref b, rfl, rfl, .inl (.inl w), atI_dp h1, cont⟩)
  · exact .inl (.inr (.inl ⟨a, xs, k, .ref b, rfl, rfl, .inl (.inl w), atI_dp h1, cont⟩))
theorem mu_rev {kk i k : Nat} {x : Str} {px p1 p2 p4 p5 p6 : Pos} {c1} (C : Cw X K E kk) (hN : X.N[i]? = some x := by rfl) (hv : Vis X.env.scope x := by first | exact Or.inl rfl | exact Or.inr (Or.inl rfl) | exact Or.inr (Or.inr rfl)) (hd : (x == ("__debug__" : Str)) = false := by decide) (hcd : (x == ("__classdict__" : Str)) = false := by decide)
    (hbase : attributeBase (.Subscript (.Name x px) (.Constant (.int ((k : Nat) : Int)) c1 p1) p2) "reverse" X.env (eval (.Subscript (.Name x px) (.Constant (.int ((k : Nat) : Int)) c1 p1) p2) X.env) = eval (.Subscript (.Name x px) (.Constant (.int ((k : Nat) : Int)) c1 p1) p2) X.env := by rfl)
    (hline : (p4.endLine == p5.line) = true := by rfl)
    (hsw : swapsWith (.Call (.Attribute (.Subscript (.Name x px) (.Constant (.int ((k : Nat) : Int)) c1 p1) p2) "reverse" p4) [] [] p5) none p6.line X.env = pure false := by rfl) :
    MutS X i k (.Expr (.Call (.Attribute (.Subscript (.Name x px) (.Constant (.int ((k : Nat) : Int)) c1 p1) p2) "reverse" p4) [] [] p5) p6) (tRevN K i k) := by
  have r := r_ixA C
  obtain ⟨kq, _, _, _, _⟩ := C
  subst kq
  refine ⟨ps_expr (pe_bm0 PySem.F.plainAttrs_list PySem.F.slot_list_reverse PySem.F.type_list_reverse mt_reverse (pe_ix r (pe_var hN hv hd hcd) pe_int (fun _ _ => rfl)) hbase hline) hsw, fun Dn σ H a b xs zs hs ha h1 h2 h3 h4 q => ?_⟩
  refine ⟨.ref a, hs, ?_⟩
  have cont : tyV X.K "list" (.ref b) H ∧ rReverse (.ref b) [] H fun _ H1 => Dn.nx σ H1 :=
    ⟨.inl ⟨rfl, zs, .inl (.inl h3)⟩, b, zs, rfl, rfl, h3, q _ (by simp)⟩
  rcases ha with w | w
  · exact .inl (.inl ⟨a, xs, k, .ref b, rfl, rfl, .inl (.inl w), atI_dp h1, cont⟩)
  · exact .inl (.inr (.inl ⟨a, xs, k, .ref b, rfl, rfl, .inl (.inl w), atI_dp h1, cont⟩))
inductive Muts (X : Cx) (i k : Nat) : Nat → List Stmt → TS → Prop
  | nil : Muts X i k 0 [] tNext
  | cons {n : Nat} {st : Stmt} {rest : List Stmt} {t u : TS} : MutS X i k st t → Muts X i k n rest u → Muts X i k (n + 1) (st :: rest) (tSeq t u)
theorem Muts.ps {i k n : Nat} (h : Muts X i k n rest t) : PSs X rest t := by
  induction h with
  | nil => exact pss_nil
  | cons h _ ih => exact pss_cons h.ps ih
theorem Muts.run {i k n : Nat} {a b : Addr} {xs : List V} {Dn : Ends} (h : Muts X i k n rest t) : ∀ {H : Hp} {zs : List V}, σ[i]? = some (some (V.ref a)) → (H a = some (.lst xs) ∨ H a = some (.tup xs)) → xs[k]? = some (.ref b) → b ≠ a → H b = some (.lst zs) → zs.length + n ≤ sizeLine →
    (∀ H', (∀ c, c ≠ b → H' c = H c) → Dn.nx σ H') → t Dn σ H := by
  induction h with
  | nil => exact fun _ _ _ _ _ _ q => q _ fun _ _ => rfl
  | @cons n st rest t u hp hr ih =>
    intro H zs hs ha h1 h2 h3 h4 q
    refine hp.run _ σ H a b xs zs hs ha h1 h2 h3 (by omega) fun zs' hz => ?_
    refine ih hs (by rw [upd_ne (Ne.symm h2)]; exact ha) h1 h2 upd_same (by omega) fun H' hh => q H' fun c hc => ?_
    rw [hh c hc, upd_ne hc]
/-! ### the block: x = e; if c: ..; if c2: x[k].reverse(); x[k].append(None) -/
def hideO (ρ : EV) : EV := ρ.map fun x => match x with
  | some (.own _) => none
  | x => x
theorem hideO_get (j : Nat) : (hideO ρ)[j]? = (ρ[j]?).map fun x => match x with
    | some (.own _) => none
    | x => x := by unfold hideO; rw [List.getElem?_map]
theorem hideO_own {j : Nat} {d : D} : (hideO ρ)[j]? ≠ some (some (.own d)) := by
  rw [hideO_get]
  cases ρ[j]? with
  | none => simp
  | some x =>
    cases x with
    | none => simp
    | some s => cases s <;> simp
theorem hideO_val {j : Nat} {d : D} (h : (hideO ρ)[j]? = some (some (.val d))) : ρ[j]? = some (some (.val d)) := by
  rw [hideO_get] at h
  cases q : ρ[j]? with
  | none => rw [q] at h; cases h
  | some x =>
    rw [q] at h
    cases x with
    | none => cases h
    | some s =>
      cases s with
      | own d' => cases h
      | val d' => exact h
def parOk (np : Nat) (ρ : EV) : Bool := (List.range np).all fun j => !isOwn ρ j
theorem parOk_ne {j : Nat} {d : D} (h : parOk np ρ = true) (hj : j < np) : ρ[j]? ≠ some (some (.own d)) := fun q => by
  have := List.all_eq_true.mp h j (List.mem_range.mpr hj)
  rw [isOwn_iff.mpr ⟨d, q⟩] at this
  cases this
def mutOk (k n : Nat) (d : D) : Bool := match (partsD d)[k]? with
  | some (.list l) => decide (l.length + n ≤ sizeLine)
  | _ => false
def sScopeB (np i k nm : Nat) (me : EV → Out (Rv × EV)) (mc : EV → Out (Bool × EV)) (mn : EV → Out (Fl × EV)) (mc2 : EV → Out (Bool × EV)) : EV → Out (Fl × EV) := fun ρ =>
  if (parOk np ρ && decide (i < ρ.length)) = true then (fzO (me (hideO ρ))).bind fun x => match x.1 with
    | .val d => (mc (x.2.set i (some (.val d)))).bind fun y => if y.1 = true then noNx mn y.2 else (mc2 y.2).bind fun z => if z.1 = true then (if mutOk k nm d = true then .ok (.next, ρ.set i none) else .bad) else .ok (.next, ρ.set i none)
    | _ => .bad
  else .bad
theorem ms_scopeB {tt tt2 : TT} {nc nc2 : EV → Out (Bool × EV)} {i k nm : Nat} (he : MdX G E ta ma) (hc : MdT G E tt nc) (hb : Ms G E np u n) (hc2 : MdT G E tt2 nc2) (ha : Muts X i k nm rest t) :
    Ms G E np (tSeq (tAsg ta (gName i)) (tSeq (tIfS tt u tNext) (tIfS tt2 t tNext))) (sScopeB np i k nm ma nc n nc2) := fun A F H ρ σ Dn hn s p => by
  unfold sScopeB at p
  by_cases no : ¬ (parOk np ρ && decide (i < ρ.length)) = true
  · rw [if_neg no] at p; exact p.elim
  have no := Decidable.not_not.mp no
  rw [if_pos no] at p
  obtain ⟨po, hi⟩ := Bool.and_eq_true_iff.mp no
  have hi := of_decide_eq_true hi
  have hpar : ∀ (j : Nat) (d : D), A.as[j]? ≠ some (some (Sl.own d)) := fun j d q => by
    obtain ⟨⟨d', k1⟩, _⟩ := s.par j d q
    exact parOk_ne po (hn ▸ (List.getElem?_eq_some_iff.mp q).1) k1
  have en0 : EnvR G F H (hideO ρ) σ := ⟨s.env.same, by unfold hideO; rw [List.length_map]; exact s.env.len, fun j d q => s.env.val j d (hideO_val q), fun j d q => (hideO_own q).elim, fun j l b w => by obtain ⟨⟨d, q⟩, _⟩ := w; exact (hideO_own q).elim⟩
  have s0 : StI G A F H (hideO ρ) σ := ⟨en0, s.fr, s.new, s.keep, fun j b w => by obtain ⟨⟨d, q⟩, _⟩ := w; exact (hideO_own q).elim, fun j d q => (hpar j d q).elim⟩
  have no0 : ∀ (j : Nat) (d : D), (hideO ρ)[j]? ≠ some (some (.own d)) := fun j d => hideO_own
  have fin : ∀ (v : V) (H4 : Hp), (∀ c o, H c = some o → H4 c = some o) → StI G A F H4 (ρ.set i none) (σ.set i (some v)) := fun v H4 kk => by
    have key : ∀ (j : Nat) (x : Sl), (ρ.set i none)[j]? = some (some x) → i ≠ j ∧ ρ[j]? = some (some x) := by
      intro j x y
      rw [get_set] at y
      by_cases z : i = j
      · rw [if_pos z, if_pos hi] at y; injection y with y; cases y
      · rw [if_neg z] at y; exact ⟨z, y⟩
    have sg : ∀ j, i ≠ j → (σ.set i (some v))[j]? = σ[j]? := fun j z => by rw [get_set, if_neg z]
    refine ⟨⟨fun c o q => kk c o (s.env.same c o q), by simp [s.env.len], fun j x q => ?_, fun j x q => ?_, ?_⟩, s.fr, s.new, fun c o q w => kk c o (s.keep c o q w), ?_, fun j x q => (hpar j x q).elim⟩
    · obtain ⟨z, q⟩ := key j _ q
      rw [sg j z]
      exact s.env.val j x q
    · obtain ⟨z, q⟩ := key j _ q
      rw [sg j z]
      obtain ⟨b, h1, h2, h3⟩ := s.env.own j x q
      obtain ⟨o, ho⟩ := h3.there
      exact ⟨b, h1, h2, h3.at ((kk b o ho).trans ho.symm)⟩
    · rintro j l c ⟨⟨x, q1⟩, q2⟩ ⟨⟨y, q3⟩, q4⟩
      obtain ⟨z1, q1⟩ := key j _ q1
      obtain ⟨z3, q3⟩ := key l _ q3
      rw [sg j z1] at q2
      rw [sg l z3] at q4
      exact s.env.ne j l c ⟨⟨x, q1⟩, q2⟩ ⟨⟨y, q3⟩, q4⟩
    · rintro j c ⟨⟨x, q1⟩, q2⟩
      obtain ⟨z1, q1⟩ := key j _ q1
      rw [sg j z1] at q2
      exact s.loc j c ⟨⟨x, q1⟩, q2⟩
  have main : ∀ (d : D) (ρ1 : EV) (F1 H1 : Hp) (v : V), PostG (OkS G A Dn) (XS G E A) ((nc (ρ1.set i (some (.val d)))).bind fun y => if y.1 = true then noNx n y.2 else (nc2 y.2).bind fun z => if z.1 = true then (if mutOk k nm d = true then .ok (.next, ρ.set i none) else .bad) else .ok (.next, ρ.set i none)) →
      Stp G F H (hideO ρ) F1 H1 ρ1 σ → R G F1 d v → Parts H H1 v → tSeq (tIfS tt u tNext) (tIfS tt2 t tNext) Dn (σ.set i (some v)) H1 := by
    intro d ρ1 F1 H1 v p st r pt
    have no1 : ∀ (j : Nat) (d : D), ρ1[j]? ≠ some (some (.own d)) := fun j d q => by
      rcases st.mode j with ⟨x, x', h1, h2⟩ | ⟨h1, h2⟩
      · exact no0 j x h1
      · exact no0 j d (h2 ▸ q)
    have s1 := s0.stp st
    have ok : okSet np i ρ1 = true := okSet_iff.mpr fun _ d q => no1 i d q
    have s2 := s1.setVal hn ok r
    have no2 : ∀ (j : Nat) (x : D), (ρ1.set i (some (Sl.val d)))[j]? ≠ some (some (.own x)) := fun j x q => by
      rw [get_set] at q
      by_cases z : i = j
      · rw [if_pos z] at q
        by_cases y : i < ρ1.length
        · rw [if_pos y] at q; injection q with q; cases q
        · rw [if_neg y] at q; cases q
      · rw [if_neg z] at q; exact no1 j x q
    refine hc F1 H1 _ _ _ s2.env ?_
    rw [post_bind] at p
    revert p
    cases nc (ρ1.set i (some (.val d))) with
    | bad => exact fun p => p
    | ex c f ρ' => exact fun p => xs_xc s2 p
    | ok y =>
      obtain ⟨b, ρ3⟩ := y
      intro p F2 H2 st2
      have s3 := s2.stp st2
      have no3 : ∀ (j : Nat) (d : D), ρ3[j]? ≠ some (some (.own d)) := fun j d q => by
        rcases st2.mode j with ⟨x, x', h1, h2⟩ | ⟨h1, h2⟩
        · exact no2 j x h1
        · exact no2 j d (h2 ▸ q)
      cases b with
      | true =>
        refine iteT (hb A F2 H2 ρ3 _ _ hn s3 ?_)
        have p : PostG (OkS G A Dn) (XS G E A) (noNx n ρ3) := p
        revert p
        unfold noNx
        cases n ρ3 with
        | bad => exact fun p => p
        | ex c f ρ' => exact fun p => p
        | ok y =>
          obtain ⟨f, ρ4⟩ := y
          cases f with
          | ret r => exact fun p => p
          | next => exact fun p => p.elim
          | brk => exact fun p => p.elim
          | cont => exact fun p => p.elim
      | false =>
        have p : PostG (OkS G A Dn) (XS G E A) ((nc2 ρ3).bind fun z => if z.1 = true then (if mutOk k nm d = true then .ok (.next, ρ.set i none) else .bad) else .ok (.next, ρ.set i none)) := p
        refine iteF ?_
        refine hc2 F2 H2 _ _ _ s3.env ?_
        rw [post_bind] at p
        revert p
        cases nc2 ρ3 with
        | bad => exact fun p => p
        | ex c f ρ' => exact fun p => xs_xc s3 p
        | ok y =>
          obtain ⟨b, ρ4⟩ := y
          intro p F3 H3 st3
          have s4 := s3.stp st3
          have up : ∀ c o, H1 c = some o → H3 c = some o := fun c o q => st3.keep c o (st2.keep c o q fun j w => no2 j _ w.1.choose_spec) fun j w => no3 j _ w.1.choose_spec
          have kH : ∀ c o, H c = some o → H3 c = some o := fun c o q => up c o (st.keep c o q fun j w => no0 j _ w.1.choose_spec)
          cases b with
          | false =>
            have p : ∀ F' H' σ', StI G A F' H' (ρ.set i none) σ' → Dn.nx σ' H' := p
            exact iteF (p F H3 _ (fin v H3 kH))
          | true =>
            refine iteT ?_
            have p : PostG (OkS G A Dn) (XS G E A) (if mutOk k nm d = true then .ok (.next, ρ.set i none) else .bad) := p
            by_cases mo : ¬ mutOk k nm d = true
            · rw [if_neg mo] at p; exact p.elim
            have mo := Decidable.not_not.mp mo
            rw [if_pos mo] at p
            have p : ∀ F' H' σ', StI G A F' H' (ρ.set i none) σ' → Dn.nx σ' H' := p
            obtain ⟨a, xs, rfl, pa, pf, pn⟩ := pt
            have hs : (σ.set i (some (V.ref a)))[i]? = some (some (V.ref a)) := by
              rw [get_set, if_pos rfl, if_pos (by rw [← s.env.len]; exact hi)]
            have rp : partsD d = [] ∨ Rs G F1 (partsD d) xs := by
              cases r with
              | lst h1 h2 =>
                have := s1.env.same _ _ h1
                rcases pa with pa | pa
                · rw [this] at pa; injection pa with pa; injection pa with pa; subst pa; exact .inr h2
                · rw [this] at pa; cases pa
              | tup h1 h2 =>
                rcases h1 with ⟨_, h1⟩ | ⟨_, o, _, h1⟩
                · have := s1.env.same _ _ h1
                  rcases pa with pa | pa
                  · rw [this] at pa; cases pa
                  · rw [this] at pa; injection pa with pa; injection pa with pa; subst pa; exact .inr h2
                · have := s1.env.same _ _ h1
                  rcases pa with pa | pa <;> (rw [this] at pa; cases pa)
              | dK h1 _ => have := s1.env.same _ _ h1; rcases pa with pa | pa <;> (rw [this] at pa; cases pa)
              | dT h1 _ => have := s1.env.same _ _ h1; rcases pa with pa | pa <;> (rw [this] at pa; cases pa)
              | dL h1 _ => have := s1.env.same _ _ h1; rcases pa with pa | pa <;> (rw [this] at pa; cases pa)
              | dU h1 _ => have := s1.env.same _ _ h1; rcases pa with pa | pa <;> (rw [this] at pa; cases pa)
              | obj h1 _ => have := s1.env.same _ _ h1; rcases pa with pa | pa <;> (rw [this] at pa; cases pa)
              | scr h1 => exact .inl rfl
            unfold mutOk at mo
            cases z : (partsD d)[k]? with
            | none => rw [z] at mo; cases mo
            | some y =>
              rw [z] at mo
              cases y with
              | list l =>
                have rp := rp.resolve_left fun e => by rw [e] at z; cases z
                obtain ⟨w, w1, w2⟩ := rp.getD z
                cases w2 with
                | @lst b zs _ g1 g2 =>
                  refine ha.run hs (pa.imp (up _ _) (up _ _)) w1 (fun e => pn (e ▸ List.mem_of_getElem? w1)) (up _ _ (s1.env.same _ _ g1)) (by rw [g2.length]; exact of_decide_eq_true mo) fun H4 hh => p F H4 _ (fin _ H4 fun c o q => ?_)
                  rw [hh c fun e => ?_]
                  · exact kH c o q
                  · have := pf _ (List.mem_of_getElem? w1) c (by rw [e])
                    rw [q] at this; cases this
              | _ => cases mo
  refine he F H _ σ _ en0 ?_
  rw [post_bind] at p
  revert p
  cases ma (hideO ρ) with
  | bad => exact fun p => p
  | ex c f ρ' => exact fun p => xs_xc s0 p
  | ok x =>
    obtain ⟨r, ρ1⟩ := x
    cases r with
    | ref j => exact fun p => p.elim
    | val d => exact fun p F1 H1 v st rr pt => main d ρ1 F1 H1 v p st rr pt
    | own d =>
      intro p F1 H1 v st rr pt
      obtain ⟨a, ev, f, nn, o⟩ := rr
      obtain ⟨x, hx, r⟩ := o.frozen f
      subst ev
      refine main d ρ1 (upd F1 a x) H1 (.ref a) p ⟨st.fr.trans (same_upd f), st.env.freeze hx f ?_, ?_, st.keep, st.mode⟩ r pt
      · intro i w
        obtain ⟨y, hy⟩ := s0.env.there ((st.ow i).mp w)
        rw [nn] at hy; cases hy
      · intro b y z
        by_cases q : b = a
        · subst q; exact .inr (.inl nn)
        · rw [upd_ne q] at z; exact st.new b y z
theorem sb_scopeB {c c2 : Expr} {x : List Stmt} {nc nc2 : EV → Out (Bool × EV)} {tt tt2 : TT} (i k nm : Nat) {y : Str} {pos' ps pi pi2 : Pos} (hN : X.N.Nodup) (h : SEX X K cl E e ta ma) (hc : SQ X K cl E c tt nc) (hb : SB X K cl E np x u n) (hc2 : SQ X K cl E c2 tt2 nc2) (ha : Muts X i k nm rest t)
    (hi : X.N[i]? = some y := by rfl) (hx : Loc X.env.scope y := by first | exact Or.inl rfl | exact Or.inr rfl) (hs : swapsWith e (some (.Name y pos')) ps.line X.env = pure false := by rfl) (hf : X.fn y = true ∨ X.env.scope.names.lookup y = some .local := by first | exact .inl rfl | exact .inr rfl | assumption) :
    SB X K cl E np [.Assign [.Name y pos'] e ps, .If c x [] pi, .If c2 rest [] pi2] (tSeq (tAsg ta (gName i)) (tSeq (tIfS tt u tNext) (tIfS tt2 t tNext))) (sScopeB np i k nm ma nc n nc2) :=
  ⟨pss_cons (ps_set hN hi hx h.1 hs hf) (pss_cons (ps_if hc.1 hb.1 pss_nil) (pss_one (ps_if hc2.1 ha.ps pss_nil))), ms_scopeB h.2 hc.2 hb.2 hc2.2 ha⟩
end
end Fr
namespace K16
open PySem L2 Fr
def top (i : Nat) : Stmt := PySem.Challenge.pw_firingrules_k16_rows_and_databases_in_or.main.body.getD i (.Pass ⟨0, 0, 0, 0⟩)
section
variable {P : Program} {w : World} {K : PySem.W.Frag} {mg : Str → Option Value} {bs : Heap} {cl : Str → Addr}
abbrev s_TooMany___init__ : Stmt := inClass (top 6) 0
theorem sc_TooMany___init__ : FnScope ["self", "limit"] ["self", "limit"] (defScope s_TooMany___init__) := ⟨rfl, rfl, rfl, by decide +kernel, rfl, by decide +kernel, by decide +kernel⟩
theorem ini_TooMany {f RC : Addr} {mc : Value} {fd : FuncData} (Fu : Fun K "__init__" "TooMany.__init__" s_TooMany___init__ f fd) (hR : mg "RuleError" = some (.ref RC)) (B : BaseI K RC mc) : FnG P w K mg bs 1 f fd ["self", "limit"] (spI K (cl "TooMany") "limit") :=
  init_g (txt := "there are too many") Fu sc_TooMany___init__ fun cdv A out s H E => pss_cons (ps_expr (pe_reinit (x := "RuleError") rfl hR B (pa_cons (pe_var (i := 0) rfl (Or.inl rfl) (by decide) (by decide)) (pa_cons pe_str pa_nil))) rfl) (pss_one (ps_ost (pe_var (i := 0) rfl (Or.inl rfl) (by decide) (by decide)) (pe_var (i := 1) rfl (Or.inl rfl) (by decide) (by decide)) rfl))
abbrev s__law_take : Stmt := top 26
abbrev N__law_take : List Str := ["_law_bag_here", "_law_many", "_law_cell", "_law_value", "_law_first", "_law_second"]
theorem sc__law_take : FnScope N__law_take ["_law_bag_here", "_law_many"] (defScope s__law_take) := ⟨rfl, rfl, rfl, by decide +kernel, rfl, by decide +kernel, by decide +kernel⟩
def b__law_take : EV → Out (Fl × EV) :=
  (sSeq (sIf (mB (m2 eqD (m2 ixA (mVar 0) (mC (.int 0))) (mC (.int 0)))) (sSeq (sSetV 2 2 (mC (.int 0)))
    (sSeq (sIf (mB (m2 ltD (m2 ixA (mVar 0) (mC (.int 2))) (mN lenD (aCons (m2 ixA (mVar 0) (mC (.int 3))) aNil)))) (sSetV 2 2 (m2 ixA (m2 ixA (mVar 0) (mC (.int 3))) (m2 ixA (mVar 0) (mC (.int 2))))) sNext)
    (sSeq (sSubAdd 0 (mC (.int 2)) (mC (.int 1)))
    (sSeq (sIf (mB (m2 geD (mVar 2) (mC (.int 1000000000000000000)))) (sSubA 0 (mC (.int 0)) (mVar 2)) sNext)
    (sSubA 0 (mC (.int 1)) (m2 modD (m2 addD (m2 addD (m2 mulA (m2 ixA (mVar 0) (mC (.int 1))) (mC (.int 48271))) (m2 modD (mVar 2) (mC (.int 2147483647)))) (m2 mulA (mC (.int 7919)) (m2 ixA (mVar 0) (mC (.int 2))))) (mC (.int 2147483647)))))))) sNext)
    (sSeq (sIf (mB (m2 gtD (m2 ixA (mVar 0) (mC (.int 0))) (mC (.int 0)))) (sSeq (sSetV 2 3 (m2 modD (m2 ixA (mVar 0) (mC (.int 0))) (mVar 1)))
    (sSeq (sSubA 0 (mC (.int 0)) (m2 divD (m2 ixA (mVar 0) (mC (.int 0))) (mVar 1)))
    (sRet 2 (mVar 3)))) sNext)
    (sSeq (sSetV 2 4 (m2 modD (m2 mulA (m2 addD (m2 ixA (mVar 0) (mC (.int 1))) (mC (.int 1))) (mC (.int 39373))) (mC (.int 1000000007))))
    (sSeq (sSetV 2 5 (m2 modD (m2 mulA (m2 modD (m2 mulA (mVar 4) (mVar 4)) (mC (.int 998244353))) (mC (.int 30011))) (mC (.int 998244353))))
    (sSeq (sIf (mB (m2 gtD (mVar 1) (mC (.int 1000000)))) (sRet 2 (m2 modD (m2 addD (m2 mulA (mVar 5) (mC (.int 1000000007))) (mVar 4)) (mVar 1))) sNext)
    (sRet 2 (m2 modD (m2 divD (mVar 5) (mC (.int 7))) (mVar 1))))))))
def m__law_take : Mf := runF 2 6 b__law_take
theorem ok__law_take {f : Addr} {fd : FuncData} (Fu : Fun K "_law_take" "_law_take" s__law_take f fd) (T : Bn mg) : FnG P w K mg bs 1 f fd ["_law_bag_here", "_law_many"] (SpF ⟨K, cl⟩ m__law_take) := by
  refine fun_g Fu sc__law_take fun cdv A out s H E C => ?_
  unfold b__law_take
  exact ⟨_, (sb_cons (ss_if (sq_cmp (r_eq C) v_eq (se_ix (r_ixA C) v_ixA (se_var 0) se_int) se_int (nomark _)) (sb_cons (ss_setV 2 sc__law_take.nd se_int)
    (sb_cons (ss_if (sq_cmp op_lt v_lt (se_ix (r_ixA C) v_ixA (se_var 0) se_int) (se_callB (r_len C) v_len T.len (by decide +kernel) (sa_cons (se_ix (r_ixA C) v_ixA (se_var 0) se_int) sa_nil)) (nomark _)) (sb_one (ss_setV 2 sc__law_take.nd (se_ix (r_ixA C) v_ixA (se_ix (r_ixA C) v_ixA (se_var 0) se_int) (se_ix (r_ixA C) v_ixA (se_var 0) se_int)))) sb_nil)
    (sb_cons (ss_subAdd 0 C se_int se_int)
    (sb_cons (ss_if (sq_cmp op_ge v_ge (se_var 2) se_int (nomark _)) (sb_one (ss_subA 0 C se_int (se_var 2))) sb_nil)
    (sb_one (ss_subA 0 C se_int (se_bin op_mod v_mod (se_bin (or_add C) v_add (se_bin (or_add C) v_add (se_bin (or_mulA C) v_mulA (se_ix (r_ixA C) v_ixA (se_var 0) se_int) se_int) (se_bin op_mod v_mod (se_var 2) se_int)) (se_bin (or_mulA C) v_mulA se_int (se_ix (r_ixA C) v_ixA (se_var 0) se_int))) se_int))))))) sb_nil)
    (sb_cons (ss_if (sq_cmp op_gt v_gt (se_ix (r_ixA C) v_ixA (se_var 0) se_int) se_int (nomark _)) (sb_cons (ss_setV 3 sc__law_take.nd (se_bin op_mod v_mod (se_ix (r_ixA C) v_ixA (se_var 0) se_int) (se_var 1)))
    (sb_cons (ss_subA 0 C se_int (se_bin op_fdivW v_div (se_ix (r_ixA C) v_ixA (se_var 0) se_int) (se_var 1)))
    (sb_one (ss_ret (se_var 3))))) sb_nil)
    (sb_cons (ss_setV 4 sc__law_take.nd (se_bin op_mod v_mod (se_bin (or_mulA C) v_mulA (se_bin (or_add C) v_add (se_ix (r_ixA C) v_ixA (se_var 0) se_int) se_int) se_int) se_int))
    (sb_cons (ss_setV 5 sc__law_take.nd (se_bin op_mod v_mod (se_bin (or_mulA C) v_mulA (se_bin op_mod v_mod (se_bin (or_mulA C) v_mulA (se_var 4) (se_var 4)) se_int) se_int) se_int))
    (sb_cons (ss_if (sq_cmp op_gt v_gt (se_var 1) se_int (nomark _)) (sb_one (ss_ret (se_bin op_mod v_mod (se_bin (or_add C) v_add (se_bin (or_mulA C) v_mulA (se_var 5) se_int) (se_var 4)) (se_var 1)))) sb_nil)
    (sb_one (ss_ret (se_bin op_mod v_mod (se_bin op_fdivW v_div (se_var 5) se_int) (se_var 1)))))))))⟩
abbrev s_rank_of : Stmt := top 22
abbrev N_rank_of : List Str := ["database", "content"]
theorem sc_rank_of : FnScope N_rank_of ["database"] (defScope s_rank_of) := ⟨rfl, rfl, rfl, by decide +kernel, rfl, by decide +kernel, by decide +kernel⟩
def b_rank_of : EV → Out (Fl × EV) :=
  (sRet 1 (mTup (aCons (mN sumD (aCons (mLc (iQ (mVar 0)) (gN 0 1) [1] mYes (mN lenD (aCons (mVar 1) aNil))) aNil)) (aCons (mVar 0) aNil))))
def m_rank_of : Mf := runF 1 2 b_rank_of
theorem ok_rank_of {f : Addr} {fd : FuncData} (Fu : Fun K "rank_of" "rank_of" s_rank_of f fd) (T : Bn mg) : FnG P w K mg bs 1 f fd ["database"] (SpF ⟨K, cl⟩ m_rank_of) := by
  refine fun_g Fu sc_rank_of fun cdv A out s H E C => ?_
  unfold b_rank_of
  exact ⟨_, (sb_one (ss_ret (se_tup (sa_cons (se_callB (r_sum C) v_sum T.sum (by decide +kernel) (sa_cons (se_lc [("content", 1)] C.calm sc_rank_of.nd (si_seq C (se_var 0)) (blkOk_by (own := [("content", 1)]) (N := N_rank_of) (sc := defScope s_rank_of) (by decide +kernel)) (fun _ _ _ _ _ => (sg_name 1 sc_rank_of.nd (by decide))) (fun _ _ _ _ _ => sps_nil) (fun _ _ _ _ _ => (se_callB (r_len C.blk) v_len T.len (by decide +kernel) (sa_cons (se_var 1) sa_nil)))) sa_nil)) (sa_cons (se_var 0) sa_nil)))))⟩
abbrev s_tuples_of : Stmt := top 19
abbrev N_tuples_of : List Str := ["size", "many", "found", "turn", "row", "value"]
theorem sc_tuples_of : FnScope N_tuples_of ["size", "many"] (defScope s_tuples_of) := ⟨rfl, rfl, rfl, by decide +kernel, rfl, by decide +kernel, by decide +kernel⟩
def b_tuples_of : EV → Out (Fl × EV) :=
  (sSeq (sSetO 2 2 (mLst (aCons (mTup aNil) aNil)))
    (sSeq (sFor (iR1 (aCons (mVar 1) aNil)) (gN 2 3) (sFrz 2 2 (sSetO 2 2 (mLc2 (iQ (mVar 2)) (gN 0 4) [4, 5] mYes (mIn (iR1 (aCons (mVar 0) aNil)) (gN 0 5) [5] mYes (m2 addD (mVar 4) (mTup (aCons (mVar 5) aNil))))))))
    (sRet 2 (mVar 2))))
def m_tuples_of : Mf := runF 2 6 b_tuples_of
theorem ok_tuples_of {f : Addr} {fd : FuncData} (Fu : Fun K "tuples_of" "tuples_of" s_tuples_of f fd) (T : Bn mg) : FnG P w K mg bs 1 f fd ["size", "many"] (SpF ⟨K, cl⟩ m_tuples_of) := by
  refine fun_g Fu sc_tuples_of fun cdv A out s H E C => ?_
  unfold b_tuples_of
  exact ⟨_, (sb_cons (ss_setO 2 sc_tuples_of.nd (se_lst (sa_cons (se_tup sa_nil) sa_nil)))
    (sb_cons (ss_for (vs := [3]) own_passes C.calm (si_range1 T.range (sa_cons (se_var 1) sa_nil)) (sg_name 3 sc_tuples_of.nd (by decide)) (sb_one (ss_frz 2 (ss_setLc2O 2 [("row", 4), ("value", 5)] [5] (by decide) C.calm sc_tuples_of.nd (sw_true rfl rfl rfl (by decide +kernel)) (si_seq C (se_var 2)) (blkOk_by (own := [("row", 4), ("value", 5)]) (N := N_tuples_of) (sc := defScope s_tuples_of) (by decide +kernel)) (fun _ _ _ _ _ => (sg_name 4 sc_tuples_of.nd (by decide))) (fun _ _ _ _ _ => sps_nil) (fun _ _ _ _ _ => (si_range1 T.range (sa_cons (se_var 0) sa_nil))) (fun _ _ _ _ _ => (sg_name 5 sc_tuples_of.nd (by decide))) (fun _ _ _ _ _ => sps_nil) (fun _ _ _ _ _ => (se_bin (or_add C.blk) v_add (se_var 4) (se_tup (sa_cons (se_var 5) sa_nil))))))))
    (sb_one (ss_ret (se_var 2)))))⟩
abbrev s_contents_of : Stmt := top 21
abbrev N_contents_of : List Str := ["size", "many", "keys", "found", "key", "lots", "rest", "content", "lot"]
theorem sc_contents_of : FnScope N_contents_of ["size", "many", "keys"] (defScope s_contents_of) := ⟨rfl, rfl, rfl, by decide +kernel, rfl, by decide +kernel, by decide +kernel⟩
def b_contents_of : EV → Out (Fl × EV) :=
  (sSeq (sSetV 3 3 (mLst (aCons (mTup aNil) aNil)))
    (sSeq (sFor (iQ (mFn m_tuples_of [] (aCons (mVar 0) (aCons (mVar 2) aNil)))) (gN 3 4) (sSeq (sSetV 3 5 (m2 addD (mLst (aCons (mTup aNil) aNil)) (mLc (iQ (mFn m_tuples_of [] (aCons (mVar 0) (aCons (m2 subD (mVar 1) (mVar 2)) aNil)))) (gN 0 6) [6] mYes (mTup (aCons (m2 addD (mVar 4) (mVar 6)) aNil)))))
    (sSetV 3 3 (mLc2 (iQ (mVar 3)) (gN 0 7) [7, 8] mYes (mIn (iQ (mVar 5)) (gN 0 8) [8] mYes (m2 addD (mVar 7) (mVar 8)))))))
    (sRet 3 (mVar 3))))
def m_contents_of : Mf := runF 3 9 b_contents_of
theorem ok_contents_of {f : Addr} {fd : FuncData} (Fu : Fun K "contents_of" "contents_of" s_contents_of f fd) (T : Bn mg) (h_tuples_of : Fd P w K mg bs cl "tuples_of" 1 m_tuples_of [] []) : FnG P w K mg bs 2 f fd ["size", "many", "keys"] (SpF ⟨K, cl⟩ m_contents_of) := by
  refine fun_g Fu sc_contents_of fun cdv A out s H E C => ?_
  unfold b_contents_of
  exact ⟨_, (sb_cons (ss_setV 3 sc_contents_of.nd (se_lst (sa_cons (se_tup sa_nil) sa_nil)))
    (sb_cons (ss_for (vs := [4]) own_passes C.calm (si_seq C (se_fn C h_tuples_of (sa_cons (se_var 0) (sa_cons (se_var 2) sa_nil)))) (sg_name 4 sc_contents_of.nd (by decide)) (sb_cons (ss_setV 5 sc_contents_of.nd (se_bin (or_add C) v_add (se_lst (sa_cons (se_tup sa_nil) sa_nil)) (se_lc [("rest", 6)] C.calm sc_contents_of.nd (si_seq C (se_fn C h_tuples_of (sa_cons (se_var 0) (sa_cons (se_bin op_sub v_sub (se_var 1) (se_var 2)) sa_nil)))) (blkOk_by (own := [("rest", 6)]) (N := N_contents_of) (sc := defScope s_contents_of) (by decide +kernel)) (fun _ _ _ _ _ => (sg_name 6 sc_contents_of.nd (by decide))) (fun _ _ _ _ _ => sps_nil) (fun _ _ _ _ _ => (se_tup (sa_cons (se_bin (or_add C.blk) v_add (se_var 4) (se_var 6)) sa_nil))))))
    (sb_one (ss_setLc2V 3 [("content", 7), ("lot", 8)] [8] (by decide) C.calm sc_contents_of.nd (sw_true rfl rfl rfl (by decide +kernel)) (si_seq C (se_var 3)) (blkOk_by (own := [("content", 7), ("lot", 8)]) (N := N_contents_of) (sc := defScope s_contents_of) (by decide +kernel)) (fun _ _ _ _ _ => (sg_name 7 sc_contents_of.nd (by decide))) (fun _ _ _ _ _ => sps_nil) (fun _ _ _ _ _ => (si_seq C.blk (se_var 5))) (fun _ _ _ _ _ => (sg_name 8 sc_contents_of.nd (by decide))) (fun _ _ _ _ _ => sps_nil) (fun _ _ _ _ _ => (se_bin (or_add C.blk) v_add (se_var 7) (se_var 8)))))))
    (sb_one (ss_ret (se_var 3)))))⟩
abbrev s_power : Stmt := top 18
abbrev N_power : List Str := ["base", "many", "found", "turn"]
theorem sc_power : FnScope N_power ["base", "many"] (defScope s_power) := ⟨rfl, rfl, rfl, by decide +kernel, rfl, by decide +kernel, by decide +kernel⟩
def b_power : EV → Out (Fl × EV) :=
  (sSeq (sSetV 2 2 (mC (.int 1)))
    (sSeq (sFor (iR1 (aCons (mVar 1) aNil)) (gN 2 3) (sSetV 2 2 (m2 mulB (mVar 2) (mVar 0))))
    (sRet 2 (mVar 2))))
def m_power : Mf := runF 2 4 b_power
theorem ok_power {f : Addr} {fd : FuncData} (Fu : Fun K "power" "power" s_power f fd) (T : Bn mg) : FnG P w K mg bs 1 f fd ["base", "many"] (SpF ⟨K, cl⟩ m_power) := by
  refine fun_g Fu sc_power fun cdv A out s H E C => ?_
  unfold b_power
  exact ⟨_, (sb_cons (ss_setV 2 sc_power.nd se_int)
    (sb_cons (ss_for (vs := [3]) own_passes C.calm (si_range1 T.range (sa_cons (se_var 1) sa_nil)) (sg_name 3 sc_power.nd (by decide)) (sb_one (ss_setV 2 sc_power.nd (se_bin (or_mulB C) v_mulB (se_var 2) (se_var 0)))))
    (sb_one (ss_ret (se_var 2)))))⟩
abbrev s_Schema_many : Stmt := inClass (top 23) 4
abbrev N_Schema_many : List Str := ["self", "found", "name", "columns", "keys"]
theorem sc_Schema_many : FnScope N_Schema_many ["self"] (defScope s_Schema_many) := ⟨rfl, rfl, rfl, by decide +kernel, rfl, by decide +kernel, by decide +kernel⟩
def b_Schema_many : EV → Out (Fl × EV) :=
  (sSeq (sSetV 1 1 (mC (.int 1)))
    (sSeq (sFor (iQ (m1 (attrD "Schema" "own_tables") (mVar 0))) (gT 3 (gsCons (gN 1 2) (gsCons (gN 1 3) (gsCons (gN 1 4) gsNil)))) (sSetV 1 1 (m2 mulB (mVar 1) (mFn m_power [] (aCons (m2 addD (mC (.int 1)) (mFn m_power [] (aCons (m1 (attrD "Schema" "value_count") (mVar 0)) (aCons (m2 subD (mN lenD (aCons (mVar 3) aNil)) (mVar 4)) aNil)))) (aCons (mFn m_power [] (aCons (m1 (attrD "Schema" "value_count") (mVar 0)) (aCons (mVar 4) aNil))) aNil))))))
    (sRet 1 (mVar 1))))
def m_Schema_many : Mf := runF 1 5 b_Schema_many
theorem ok_Schema_many {f : Addr} {fd : FuncData} (Fu : Fun K "many" "Schema.many" s_Schema_many f fd) (T : Bn mg) (h_power : Fd P w K mg bs cl "power" 1 m_power [] []) (k_Schema : Cls K (cl "Schema")) (no_Schema_own_tables : NoAttr K (cl "Schema") "own_tables") (no_Schema_value_count : NoAttr K (cl "Schema") "value_count") : FnG P w K mg bs 2 f fd ["self"] (SpF ⟨K, cl⟩ m_Schema_many) := by
  refine fun_g Fu sc_Schema_many fun cdv A out s H E C => ?_
  unfold b_Schema_many
  exact ⟨_, (sb_cons (ss_setV 1 sc_Schema_many.nd se_int)
    (sb_cons (ss_for (vs := [2, 3, 4]) own_passes C.calm (si_seq C (se_attr (c := "Schema") C k_Schema no_Schema_own_tables (se_var 0))) (sg_tup C (sgs_cons (sg_name 2 sc_Schema_many.nd (by decide)) (sgs_cons (sg_name 3 sc_Schema_many.nd (by decide)) (sgs_cons (sg_name 4 sc_Schema_many.nd (by decide)) sgs_nil)))) (sb_one (ss_setV 1 sc_Schema_many.nd (se_bin (or_mulB C) v_mulB (se_var 1) (se_fn C h_power (sa_cons (se_bin (or_add C) v_add se_int (se_fn C h_power (sa_cons (se_attr (c := "Schema") C k_Schema no_Schema_value_count (se_var 0)) (sa_cons (se_bin op_sub v_sub (se_callB (r_len C) v_len T.len (by decide +kernel) (sa_cons (se_var 3) sa_nil)) (se_var 4)) sa_nil)))) (sa_cons (se_fn C h_power (sa_cons (se_attr (c := "Schema") C k_Schema no_Schema_value_count (se_var 0)) (sa_cons (se_var 4) sa_nil))) sa_nil)))))))
    (sb_one (ss_ret (se_var 1)))))⟩
abbrev s_Schema_databases : Stmt := inClass (top 23) 16
abbrev N_Schema_databases : List Str := ["self", "most", "found", "name", "columns", "keys", "contents", "database", "content"]
theorem sc_Schema_databases : FnScope N_Schema_databases ["self", "most"] (defScope s_Schema_databases) := ⟨rfl, rfl, rfl, by decide +kernel, rfl, by decide +kernel, by decide +kernel⟩
def b_Schema_databases : EV → Out (Fl × EV) :=
  (sSeq (sIf (mB (m2 gtD (mPrp m_Schema_many "Schema" (mVar 0)) (mVar 1))) (sRaise "TooMany" "limit" (mVar 1)) sNext)
    (sSeq (sSetV 2 2 (mLst (aCons (mTup aNil) aNil)))
    (sSeq (sFor (iQ (m1 (attrD "Schema" "own_tables") (mVar 0))) (gT 3 (gsCons (gN 2 3) (gsCons (gN 2 4) (gsCons (gN 2 5) gsNil)))) (sSeq (sSetV 2 6 (mFn m_contents_of [] (aCons (m1 (attrD "Schema" "value_count") (mVar 0)) (aCons (mN lenD (aCons (mVar 4) aNil)) (aCons (mVar 5) aNil)))))
    (sSetV 2 2 (mLc2 (iQ (mVar 2)) (gN 0 7) [7, 8] mYes (mIn (iQ (mVar 6)) (gN 0 8) [8] mYes (m2 addD (mVar 7) (mTup (aCons (mVar 8) aNil))))))))
    (sRet 2 (m1 (sortKD m_rank_of) (mVar 2))))))
def m_Schema_databases : Mf := runF 2 9 b_Schema_databases
theorem ok_Schema_databases {f : Addr} {fd : FuncData} (Fu : FunD K "databases" "Schema.databases" (defArgs s_Schema_databases) (defBody s_Schema_databases) (defScope s_Schema_databases) [] [("most", .int 1000)] f fd) (T : Bn mg) (h_rank_of : Fd P w K mg bs cl "rank_of" 1 m_rank_of [] []) (h_contents_of : Fd P w K mg bs cl "contents_of" 2 m_contents_of [] []) (h_Schema_many : Prp P w K mg bs cl "Schema" "many" 2 m_Schema_many) (k_Schema : Cls K (cl "Schema")) (no_Schema_own_tables : NoAttr K (cl "Schema") "own_tables") (no_Schema_value_count : NoAttr K (cl "Schema") "value_count") {fX_TooMany : Addr} (x_TooMany : ExcF K mg bs P w (cl "TooMany") "TooMany" "limit" fX_TooMany) : FnG P w K mg bs 4 f fd ["self", "most"] (SpF ⟨K, cl⟩ m_Schema_databases) := by
  refine fun_gD Fu sc_Schema_databases fun cdv A out s H E C => ?_
  unfold b_Schema_databases
  exact ⟨_, (sb_cons (ss_if (sq_cmp op_gt v_gt (se_prp C h_Schema_many (se_var 0)) (se_var 1) (nomark _)) (sb_one (ss_raise1 C (takes_of rfl rfl rfl rfl) x_TooMany (passes_call (takes_of rfl rfl rfl rfl) fun _ _ _ _ z => z.elim) (se_var 1))) sb_nil)
    (sb_cons (ss_setV 2 sc_Schema_databases.nd (se_lst (sa_cons (se_tup sa_nil) sa_nil)))
    (sb_cons (ss_for (vs := [3, 4, 5]) own_passes C.calm (si_seq C (se_attr (c := "Schema") C k_Schema no_Schema_own_tables (se_var 0))) (sg_tup C (sgs_cons (sg_name 3 sc_Schema_databases.nd (by decide)) (sgs_cons (sg_name 4 sc_Schema_databases.nd (by decide)) (sgs_cons (sg_name 5 sc_Schema_databases.nd (by decide)) sgs_nil)))) (sb_cons (ss_setV 6 sc_Schema_databases.nd (se_fn C h_contents_of (sa_cons (se_attr (c := "Schema") C k_Schema no_Schema_value_count (se_var 0)) (sa_cons (se_callB (r_len C) v_len T.len (by decide +kernel) (sa_cons (se_var 4) sa_nil)) (sa_cons (se_var 5) sa_nil)))))
    (sb_one (ss_setLc2V 2 [("database", 7), ("content", 8)] [8] (by decide) C.calm sc_Schema_databases.nd (sw_true rfl rfl rfl (by decide +kernel)) (si_seq C (se_var 2)) (blkOk_by (own := [("database", 7), ("content", 8)]) (N := N_Schema_databases) (sc := defScope s_Schema_databases) (by decide +kernel)) (fun _ _ _ _ _ => (sg_name 7 sc_Schema_databases.nd (by decide))) (fun _ _ _ _ _ => sps_nil) (fun _ _ _ _ _ => (si_seq C.blk (se_var 6))) (fun _ _ _ _ _ => (sg_name 8 sc_Schema_databases.nd (by decide))) (fun _ _ _ _ _ => sps_nil) (fun _ _ _ _ _ => (se_bin (or_add C.blk) v_add (se_var 7) (se_tup (sa_cons (se_var 8) sa_nil))))))))
    (sb_one (ss_ret (se_sortK C h_rank_of T.sorted (se_var 2)))))))⟩
abbrev s__law_told : Stmt := top 34
abbrev N__law_told : List Str := ["_law_schema_here", "_law_bound", "e"]
theorem sc__law_told : FnScope N__law_told ["_law_schema_here", "_law_bound"] (defScope s__law_told) := ⟨rfl, rfl, rfl, by decide +kernel, rfl, by decide +kernel, by decide +kernel⟩
def b__law_told : EV → Out (Fl × EV) :=
  (sTryX ["TooMany"] 3 (sRet 2 (mTupX (aCons (ownX (mC (.str "told"))) (aCons (ownX (mIte (mB (m2 eqD (mVar 1) (mC (.int 1000)))) (mMeth m_Schema_databases "Schema" "databases" [.int 1000] (mVar 0) aNil) (mMeth m_Schema_databases "Schema" "databases" [] (mVar 0) (aCons (mVar 1) aNil)))) aNil))))
      (hmTup (hmCons (hmC (.str "many")) (hmCons (hmF "TooMany" "limit") hmNil))))
def m__law_told : Mf := runF 2 3 (noNx b__law_told)
theorem ok__law_told {f : Addr} {fd : FuncData} (Fu : Fun K "_law_told" "_law_told" s__law_told f fd) (T : Bn mg) (h_Schema_databases : Mth P w K mg bs cl "Schema" "databases" 4 m_Schema_databases [.int 1000] [.int 1000]) (hk_Schema_databases : MthK P w K mg bs cl "Schema" "databases" 4 m_Schema_databases "most") (y_TooMany : TryB K mg cl "TooMany" ["TooMany"] [] (.ref (cl "TooMany"))) (xf_TooMany : XfC K (cl "TooMany")) (nox_TooMany : PySem.W.findIn K (.ref (cl "TooMany")) "limit" = some none) : FnG P w K mg bs 5 f fd ["_law_schema_here", "_law_bound"] (SpX ⟨K, cl⟩ m__law_told) := by
  refine fun_gX Fu sc__law_told fun cdv A out s H E C => ?_
  unfold b__law_told
  exact ⟨_, (sbx_one (ssx_tryB (cs := ["TooMany"]) (i := 2) C (takes_of rfl rfl rfl rfl) y_TooMany rfl rfl sc__law_told.nd rfl (fun W pn xe tkW C2 => (sbx_one (ssx_ret (sex_tup (sax_cons se_str (sax_cons (se_ite (sq_cmp (r_eq C2) v_eq (se_var 1) se_int (nomark _)) (se_meth0 C2 h_Schema_databases (se_var 0)) (se_methK C2 hk_Schema_databases (se_var 0) (se_var 1))) sax_nil))))))
      (hb_ret (he_tup (hl_cons' he_str (hl_cons' (he_fld xf_TooMany nox_TooMany) hl_nil'))))))⟩
abbrev s__law_alike : Stmt := top 27
abbrev N__law_alike : List Str := ["_law_found", "_law_due"]
theorem sc__law_alike : FnScope N__law_alike ["_law_found", "_law_due"] (defScope s__law_alike) := ⟨rfl, rfl, rfl, by decide +kernel, rfl, by decide +kernel, by decide +kernel⟩
def b__law_alike : EV → Out (Fl × EV) :=
  (sRet 2 (mAndV (m2 eqD (mVar 0) (mVar 1)) (m2 eqD (mN reprA (aCons (mVar 0) aNil)) (mN reprA (aCons (mVar 1) aNil)))))
def m__law_alike : Mf := runF 2 2 b__law_alike
theorem ok__law_alike {f : Addr} {fd : FuncData} (Fu : Fun K "_law_alike" "_law_alike" s__law_alike f fd) (T : Bn mg) : FnG P w K mg bs 1 f fd ["_law_found", "_law_due"] (SpF ⟨K, cl⟩ m__law_alike) := by
  refine fun_g Fu sc__law_alike fun cdv A out s H E C => ?_
  unfold b__law_alike
  exact ⟨_, (sb_one (ss_ret (se_and (se_cmp (r_eq C) v_eq (se_var 0) (se_var 1) (nomark _)) (se_one (se_cmp (r_eq C) v_eq (se_callB (or_repr C) v_reprA T.repr (by decide +kernel) (sa_cons (se_var 0) sa_nil)) (se_callB (or_repr C) v_reprA T.repr (by decide +kernel) (sa_cons (se_var 1) sa_nil)) (nomark _))))))⟩
abbrev s__law_tuples : Stmt := top 30
abbrev N__law_tuples : List Str := ["_law_size", "_law_many", "_law_found", "_law_k", "_law_longer", "_law_one_here", "_law_value"]
theorem sc__law_tuples : FnScope N__law_tuples ["_law_size", "_law_many"] (defScope s__law_tuples) := ⟨rfl, rfl, rfl, by decide +kernel, rfl, by decide +kernel, by decide +kernel⟩
def b__law_tuples : EV → Out (Fl × EV) :=
  (sSeq (sSetV 2 2 (mLst (aCons (mTup aNil) aNil)))
    (sSeq (sFor (iR1 (aCons (mVar 1) aNil)) (gN 2 3) (sSeq (sSetV 2 4 (mLst aNil))
    (sSeq (sFor (iQ (mVar 2)) (gN 2 5) (sSetV 2 4 (m2 addD (mVar 4) (mLc (iR1 (aCons (mVar 0) aNil)) (gN 0 6) [6] mYes (m2 addD (mVar 5) (mTup (aCons (mVar 6) aNil)))))))
    (sSetV 2 2 (mVar 4)))))
    (sRet 2 (mVar 2))))
def m__law_tuples : Mf := runF 2 7 b__law_tuples
theorem ok__law_tuples {f : Addr} {fd : FuncData} (Fu : Fun K "_law_tuples" "_law_tuples" s__law_tuples f fd) (T : Bn mg) : FnG P w K mg bs 1 f fd ["_law_size", "_law_many"] (SpF ⟨K, cl⟩ m__law_tuples) := by
  refine fun_g Fu sc__law_tuples fun cdv A out s H E C => ?_
  unfold b__law_tuples
  exact ⟨_, (sb_cons (ss_setV 2 sc__law_tuples.nd (se_lst (sa_cons (se_tup sa_nil) sa_nil)))
    (sb_cons (ss_for (vs := [3]) own_passes C.calm (si_range1 T.range (sa_cons (se_var 1) sa_nil)) (sg_name 3 sc__law_tuples.nd (by decide)) (sb_cons (ss_setV 4 sc__law_tuples.nd (se_lst sa_nil))
    (sb_cons (ss_for (vs := [5]) own_passes C.calm (si_seq C (se_var 2)) (sg_name 5 sc__law_tuples.nd (by decide)) (sb_one (ss_setV 4 sc__law_tuples.nd (se_bin (or_add C) v_add (se_var 4) (se_lc [("_law_value", 6)] C.calm sc__law_tuples.nd (si_range1 T.range (sa_cons (se_var 0) sa_nil)) (blkOk_by (own := [("_law_value", 6)]) (N := N__law_tuples) (sc := defScope s__law_tuples) (by decide +kernel)) (fun _ _ _ _ _ => (sg_name 6 sc__law_tuples.nd (by decide))) (fun _ _ _ _ _ => sps_nil) (fun _ _ _ _ _ => (se_bin (or_add C.blk) v_add (se_var 5) (se_tup (sa_cons (se_var 6) sa_nil)))))))))
    (sb_one (ss_setV 2 sc__law_tuples.nd (se_var 4))))))
    (sb_one (ss_ret (se_var 2)))))⟩
abbrev s_Schema_columns : Stmt := inClass (top 23) 10
abbrev N_Schema_columns : List Str := ["self", "name"]
theorem sc_Schema_columns : FnScope N_Schema_columns ["self", "name"] (defScope s_Schema_columns) := ⟨rfl, rfl, rfl, by decide +kernel, rfl, by decide +kernel, by decide +kernel⟩
def b_Schema_columns : EV → Out (Fl × EV) :=
  (sRet 2 (m2 ixA (m2 ixA (m1 (attrD "Schema" "own_tables") (mVar 0)) (m2 ixA (m1 (attrD "Schema" "spots") (mVar 0)) (mVar 1))) (mC (.int 1))))
def m_Schema_columns : Mf := runF 2 2 b_Schema_columns
theorem ok_Schema_columns {f : Addr} {fd : FuncData} (Fu : Fun K "columns" "Schema.columns" s_Schema_columns f fd) (T : Bn mg) (k_Schema : Cls K (cl "Schema")) (no_Schema_own_tables : NoAttr K (cl "Schema") "own_tables") (no_Schema_spots : NoAttr K (cl "Schema") "spots") : FnG P w K mg bs 1 f fd ["self", "name"] (SpF ⟨K, cl⟩ m_Schema_columns) := by
  refine fun_g Fu sc_Schema_columns fun cdv A out s H E C => ?_
  unfold b_Schema_columns
  exact ⟨_, (sb_one (ss_ret (se_ix (r_ixA C) v_ixA (se_ix (r_ixA C) v_ixA (se_attr (c := "Schema") C k_Schema no_Schema_own_tables (se_var 0)) (se_ix (r_ixA C) v_ixA (se_attr (c := "Schema") C k_Schema no_Schema_spots (se_var 0)) (se_var 1))) se_int)))⟩
abbrev s_Schema_rows : Stmt := inClass (top 23) 15
abbrev N_Schema_rows : List Str := ["self", "name"]
theorem sc_Schema_rows : FnScope N_Schema_rows ["self", "name"] (defScope s_Schema_rows) := ⟨rfl, rfl, rfl, by decide +kernel, rfl, by decide +kernel, by decide +kernel⟩
def b_Schema_rows : EV → Out (Fl × EV) :=
  (sRet 2 (mFn m_tuples_of [] (aCons (m1 (attrD "Schema" "value_count") (mVar 0)) (aCons (mN lenD (aCons (mMeth m_Schema_columns "Schema" "columns" [] (mVar 0) (aCons (mVar 1) aNil)) aNil)) aNil))))
def m_Schema_rows : Mf := runF 2 2 b_Schema_rows
theorem ok_Schema_rows {f : Addr} {fd : FuncData} (Fu : Fun K "rows" "Schema.rows" s_Schema_rows f fd) (T : Bn mg) (h_tuples_of : Fd P w K mg bs cl "tuples_of" 1 m_tuples_of [] []) (h_Schema_columns : Mth P w K mg bs cl "Schema" "columns" 1 m_Schema_columns [] []) (k_Schema : Cls K (cl "Schema")) (no_Schema_value_count : NoAttr K (cl "Schema") "value_count") : FnG P w K mg bs 2 f fd ["self", "name"] (SpF ⟨K, cl⟩ m_Schema_rows) := by
  refine fun_g Fu sc_Schema_rows fun cdv A out s H E C => ?_
  unfold b_Schema_rows
  exact ⟨_, (sb_one (ss_ret (se_fn C h_tuples_of (sa_cons (se_attr (c := "Schema") C k_Schema no_Schema_value_count (se_var 0)) (sa_cons (se_callB (r_len C) v_len T.len (by decide +kernel) (sa_cons (se_meth C h_Schema_columns (se_var 0) (sa_cons (se_var 1) sa_nil)) sa_nil)) sa_nil)))))⟩
abbrev s_is_integer : Stmt := top 9
abbrev N_is_integer : List Str := ["thing"]
theorem sc_is_integer : FnScope N_is_integer ["thing"] (defScope s_is_integer) := ⟨rfl, rfl, rfl, by decide +kernel, rfl, by decide +kernel, by decide +kernel⟩
def b_is_integer : EV → Out (Fl × EV) :=
  (sRet 1 (mAndV (mIsi .int (mVar 0)) (mNotV (mIsi .bool (mVar 0)))))
def m_is_integer : Mf := runF 1 1 b_is_integer
theorem ok_is_integer {f : Addr} {fd : FuncData} (Fu : Fun K "is_integer" "is_integer" s_is_integer f fd) (T : Bn mg) : FnG P w K mg bs 1 f fd ["thing"] (SpF ⟨K, cl⟩ m_is_integer) := by
  refine fun_g Fu sc_is_integer fun cdv A out s H E C => ?_
  unfold b_is_integer
  exact ⟨_, (sb_one (ss_ret (se_and (se_isi .int C (se_var 0) T.isinstance T.int) (se_one (se_not (se_isi .bool C (se_var 0) T.isinstance T.bool))))))⟩
abbrev s_is_between : Stmt := top 10
abbrev N_is_between : List Str := ["thing", "least", "most"]
theorem sc_is_between : FnScope N_is_between ["thing", "least", "most"] (defScope s_is_between) := ⟨rfl, rfl, rfl, by decide +kernel, rfl, by decide +kernel, by decide +kernel⟩
def b_is_between : EV → Out (Fl × EV) :=
  (sRet 3 (mAndV (mFn m_is_integer [] (aCons (mVar 0) aNil)) (mCh leD leD (mVar 1) (mVar 0) (mVar 2))))
def m_is_between : Mf := runF 3 3 b_is_between
theorem ok_is_between {f : Addr} {fd : FuncData} (Fu : Fun K "is_between" "is_between" s_is_between f fd) (T : Bn mg) (h_is_integer : Fd P w K mg bs cl "is_integer" 1 m_is_integer [] []) : FnG P w K mg bs 2 f fd ["thing", "least", "most"] (SpF ⟨K, cl⟩ m_is_between) := by
  refine fun_g Fu sc_is_between fun cdv A out s H E C => ?_
  unfold b_is_between
  exact ⟨_, (sb_one (ss_ret (se_and (se_fn C h_is_integer (sa_cons (se_var 0) sa_nil)) (se_one (se_ch op_le v_le op_le v_le (se_var 1) (se_var 0) (se_var 2))))))⟩
abbrev s_is_name : Stmt := top 11
abbrev N_is_name : List Str := ["thing"]
theorem sc_is_name : FnScope N_is_name ["thing"] (defScope s_is_name) := ⟨rfl, rfl, rfl, by decide +kernel, rfl, by decide +kernel, by decide +kernel⟩
def b_is_name : EV → Out (Fl × EV) :=
  (sSeq (sIf (mOr (mNot (mB (mIsi .str (mVar 0)))) (mNot (mB (mCh leD leD (mC (.int 1)) (mN lenD (aCons (mVar 0) aNil)) (mC (.int 8)))))) (sRet 1 (mC (.bool false))) sNext)
    (sRet 1 (mAndV (mM "str" (strB Txt.isascii) (mVar 0) aNil) (mAndV (mM "str" (strB Txt.isalpha) (mVar 0) aNil) (mM "str" (strB Txt.islower) (mVar 0) aNil)))))
def m_is_name : Mf := runF 1 1 b_is_name
theorem ok_is_name {f : Addr} {fd : FuncData} (Fu : Fun K "is_name" "is_name" s_is_name f fd) (T : Bn mg) {v_LONGEST_NAME : V} (c_LONGEST_NAME : Gc K mg "LONGEST_NAME" (.int 8) v_LONGEST_NAME) : FnG P w K mg bs 1 f fd ["thing"] (SpF ⟨K, cl⟩ m_is_name) := by
  refine fun_g Fu sc_is_name fun cdv A out s H E C => ?_
  unfold b_is_name
  exact ⟨_, (sb_cons (ss_if (sq_w (sw_or (sq_not (sq_val (se_isi .str C (se_var 0) T.isinstance T.str))) (sw_or1 (sq_not (sq_ch op_le v_le op_le v_le se_int (se_callB (r_len C) v_len T.len (by decide +kernel) (sa_cons (se_var 0) sa_nil)) (se_gc C c_LONGEST_NAME)))))) (sb_one (ss_ret se_bl)) sb_nil)
    (sb_one (ss_ret (se_and (se_m0 C PySem.F.plainAttrs_str PySem.F.slot_str_isascii PySem.F.type_str_isascii mt_isascii v_strB (se_var 0)) (se_and (se_m0 C PySem.F.plainAttrs_str PySem.F.slot_str_isalpha PySem.F.type_str_isalpha mt_isalpha v_strB (se_var 0)) (se_one (se_m0 C PySem.F.plainAttrs_str PySem.F.slot_str_islower PySem.F.type_str_islower mt_islower v_strB (se_var 0))))))))⟩
abbrev s_is_table : Stmt := top 20
abbrev N_is_table : List Str := ["thing", "name", "columns", "keys", "column"]
theorem sc_is_table : FnScope N_is_table ["thing"] (defScope s_is_table) := ⟨rfl, rfl, rfl, by decide +kernel, rfl, by decide +kernel, by decide +kernel⟩
def b_is_table : EV → Out (Fl × EV) :=
  (sSeq (sIf (mOr (mNot (mB (mIsi .tuple (mVar 0)))) (mB (m2 neD (mN lenD (aCons (mVar 0) aNil)) (mC (.int 3))))) (sRet 1 (mC (.bool false))) sNext)
    (sSeq (sTup (gT 3 (gsCons (gN 1 1) (gsCons (gN 1 2) (gsCons (gN 1 3) gsNil)))) (mVar 0))
    (sSeq (sIf (mOr (mNot (mB (mFn m_is_name [] (aCons (mVar 1) aNil)))) (mOr (mNot (mB (mIsi .tuple (mVar 2)))) (mNot (mB (mCh leD leD (mC (.int 1)) (mN lenD (aCons (mVar 2) aNil)) (mC (.int 3))))))) (sRet 1 (mC (.bool false))) sNext)
    (sSeq (sIf (mOr (mNot (mB (mN allD (aCons (mLc (iQ (mVar 2)) (gN 0 4) [4] mYes (mFn m_is_name [] (aCons (mVar 4) aNil))) aNil)))) (mB (m2 ltD (m1 lenSetD (mVar 2)) (mN lenD (aCons (mVar 2) aNil))))) (sRet 1 (mC (.bool false))) sNext)
    (sRet 1 (mFn m_is_between [] (aCons (mVar 3) (aCons (mC (.int 1)) (aCons (mN lenD (aCons (mVar 2) aNil)) aNil)))))))))
def m_is_table : Mf := runF 1 5 b_is_table
theorem ok_is_table {f : Addr} {fd : FuncData} (Fu : Fun K "is_table" "is_table" s_is_table f fd) (T : Bn mg) (h_is_between : Fd P w K mg bs cl "is_between" 2 m_is_between [] []) (h_is_name : Fd P w K mg bs cl "is_name" 1 m_is_name [] []) {v_MOST_COLUMNS : V} (c_MOST_COLUMNS : Gc K mg "MOST_COLUMNS" (.int 3) v_MOST_COLUMNS) : FnG P w K mg bs 3 f fd ["thing"] (SpF ⟨K, cl⟩ m_is_table) := by
  refine fun_g Fu sc_is_table fun cdv A out s H E C => ?_
  unfold b_is_table
  exact ⟨_, (sb_cons (ss_if (sq_w (sw_or (sq_not (sq_val (se_isi .tuple C (se_var 0) T.isinstance T.tuple))) (sw_or1 (sq_cmp (r_ne C) v_ne (se_callB (r_len C) v_len T.len (by decide +kernel) (sa_cons (se_var 0) sa_nil)) se_int (nomark _))))) (sb_one (ss_ret se_bl)) sb_nil)
    (sb_cons (ss_unpack (vs := [1, 2, 3]) (se_var 0) (sg_tup C (sgs_cons (sg_name 1 sc_is_table.nd (by decide)) (sgs_cons (sg_name 2 sc_is_table.nd (by decide)) (sgs_cons (sg_name 3 sc_is_table.nd (by decide)) sgs_nil)))))
    (sb_cons (ss_if (sq_w (sw_or (sq_not (sq_val (se_fn C h_is_name (sa_cons (se_var 1) sa_nil)))) (sw_or (sq_not (sq_val (se_isi .tuple C (se_var 2) T.isinstance T.tuple))) (sw_or1 (sq_not (sq_ch op_le v_le op_le v_le se_int (se_callB (r_len C) v_len T.len (by decide +kernel) (sa_cons (se_var 2) sa_nil)) (se_gc C c_MOST_COLUMNS))))))) (sb_one (ss_ret se_bl)) sb_nil)
    (sb_cons (ss_if (sq_w (sw_or (sq_not (sq_val (se_callB (r_all C) v_all T.all (by decide +kernel) (sa_cons (se_lc [("column", 4)] C.calm sc_is_table.nd (si_seq C (se_var 2)) (blkOk_by (own := [("column", 4)]) (N := N_is_table) (sc := defScope s_is_table) (by decide +kernel)) (fun _ _ _ _ _ => (sg_name 4 sc_is_table.nd (by decide))) (fun _ _ _ _ _ => sps_nil) (fun _ _ _ _ _ => (se_fn C.blk h_is_name (sa_cons (se_var 4) sa_nil)))) sa_nil)))) (sw_or1 (sq_cmp op_lt v_lt (se_lenSet C T.len T.set (se_var 2)) (se_callB (r_len C) v_len T.len (by decide +kernel) (sa_cons (se_var 2) sa_nil)) (nomark _))))) (sb_one (ss_ret se_bl)) sb_nil)
    (sb_one (ss_ret (se_fn C h_is_between (sa_cons (se_var 3) (sa_cons se_int (sa_cons (se_callB (r_len C) v_len T.len (by decide +kernel) (sa_cons (se_var 2) sa_nil)) sa_nil))))))))))⟩
abbrev s_are_listed : Stmt := top 12
abbrev N_are_listed : List Str := ["thing", "most"]
theorem sc_are_listed : FnScope N_are_listed ["thing", "most"] (defScope s_are_listed) := ⟨rfl, rfl, rfl, by decide +kernel, rfl, by decide +kernel, by decide +kernel⟩
def b_are_listed : EV → Out (Fl × EV) :=
  (sRet 2 (mAndV (mIsi2 .list .tuple (mVar 0)) (m2 leD (mN lenD (aCons (mVar 0) aNil)) (mVar 1))))
def m_are_listed : Mf := runF 2 2 b_are_listed
theorem ok_are_listed {f : Addr} {fd : FuncData} (Fu : Fun K "are_listed" "are_listed" s_are_listed f fd) (T : Bn mg) : FnG P w K mg bs 1 f fd ["thing", "most"] (SpF ⟨K, cl⟩ m_are_listed) := by
  refine fun_g Fu sc_are_listed fun cdv A out s H E C => ?_
  unfold b_are_listed
  exact ⟨_, (sb_one (ss_ret (se_and (se_isi2 .list .tuple C (se_var 0) T.isinstance T.list T.tuple) (se_one (se_cmp op_le v_le (se_callB (r_len C) v_len T.len (by decide +kernel) (sa_cons (se_var 0) sa_nil)) (se_var 1) (nomark _))))))⟩
abbrev s_Schema___init__ : Stmt := inClass (top 23) 0
abbrev N_Schema___init__ : List Str := ["self", "size", "tables", "at", "table", "name", "columns", "keys"]
theorem sc_Schema___init__ : FnScope N_Schema___init__ ["self", "size", "tables"] (defScope s_Schema___init__) := ⟨rfl, rfl, rfl, by decide +kernel, rfl, by decide +kernel, by decide +kernel⟩
def b_Schema___init__ : EV → Out (Fl × EV) :=
  (sSeq (sIf (mNot (mB (mFn m_is_between [] (aCons (mVar 1) (aCons (mC (.int 2)) (aCons (mC (.int 4)) aNil)))))) sBad sNext)
    (sSeq (sIf (mOr (mNot (mB (mFn m_are_listed [] (aCons (mVar 2) (aCons (mC (.int 3)) aNil))))) (mB (m2 eqD (mN lenD (aCons (mVar 2) aNil)) (mC (.int 0))))) sBad sNext)
    (sSeq (sFor (iE (aCons (mVar 2) aNil)) (gT 2 (gsCons (gN 3 3) (gsCons (gN 3 4) gsNil))) (sIf (mNot (mB (mFn m_is_table [] (aCons (mVar 4) aNil)))) sBad sNext))
    (sSeq (sFldO 0 "Schema" "value_count" (mVar 1))
    (sSeq (sFldO 0 "Schema" "own_tables" (mN tupleD (aCons (mVar 2) aNil)))
    (mSpots "Schema" 0 2 3 5 6 7))))))
def m_Schema___init__ : Mf := runF 3 8 b_Schema___init__
theorem ok_Schema___init__ {f : Addr} {fd : FuncData} (Fu : Fun K "__init__" "Schema.__init__" s_Schema___init__ f fd) (T : Bn mg) (h_is_table : Fd P w K mg bs cl "is_table" 3 m_is_table [] []) (h_are_listed : Fd P w K mg bs cl "are_listed" 1 m_are_listed [] []) (h_is_between : Fd P w K mg bs cl "is_between" 2 m_is_between [] []) (k_Schema : Cls K (cl "Schema")) (no_Schema_spots : NoAttr K (cl "Schema") "spots") (no_Schema_own_tables : NoAttr K (cl "Schema") "own_tables") (no_Schema_value_count : NoAttr K (cl "Schema") "value_count") {v_MOST_TABLES : V} (c_MOST_TABLES : Gc K mg "MOST_TABLES" (.int 3) v_MOST_TABLES) {v_MOST_SIZE : V} (c_MOST_SIZE : Gc K mg "MOST_SIZE" (.int 4) v_MOST_SIZE) {v_LEAST_SIZE : V} (c_LEAST_SIZE : Gc K mg "LEAST_SIZE" (.int 2) v_LEAST_SIZE) : FnG P w K mg bs 4 f fd ["self", "size", "tables"] (SpF ⟨K, cl⟩ m_Schema___init__) := by
  refine fun_g Fu sc_Schema___init__ fun cdv A out s H E C => ?_
  unfold b_Schema___init__
  exact ⟨_, (sb_cons (ss_if (sq_not (sq_val (se_fn C h_is_between (sa_cons (se_var 1) (sa_cons (se_gc C c_LEAST_SIZE) (sa_cons (se_gc C c_MOST_SIZE) sa_nil)))))) (sb_one ss_bad) sb_nil)
    (sb_cons (ss_if (sq_w (sw_or (sq_not (sq_val (se_fn C h_are_listed (sa_cons (se_var 2) (sa_cons (se_gc C c_MOST_TABLES) sa_nil))))) (sw_or1 (sq_cmp (r_eq C) v_eq (se_callB (r_len C) v_len T.len (by decide +kernel) (sa_cons (se_var 2) sa_nil)) se_int (nomark _))))) (sb_one ss_bad) sb_nil)
    (sb_cons (ss_for (vs := [3, 4]) own_passes C.calm (si_enum C T.enumerate (sa_cons (se_var 2) sa_nil)) (sg_tup C (sgs_cons (sg_name 3 sc_Schema___init__.nd (by decide)) (sgs_cons (sg_name 4 sc_Schema___init__.nd (by decide)) sgs_nil))) (sb_one (ss_if (sq_not (sq_val (se_fn C h_is_table (sa_cons (se_var 4) sa_nil)))) (sb_one ss_bad) sb_nil)))
    (sb_cons (ss_fldO 0 (c := "Schema") C k_Schema no_Schema_value_count (se_var 1))
    (sb_cons (ss_fldO 0 (c := "Schema") C k_Schema no_Schema_own_tables (se_callTy (r_tuple C) v_tuple T.tuple (by decide +kernel) (sa_cons (se_var 2) sa_nil)))
    (sb_spots (c := "Schema") 0 2 3 5 6 7 C k_Schema no_Schema_spots own_passes (si_enum C T.enumerate (sa_cons (se_var 2) sa_nil)) (sg_tup C (sgs_cons (sg_name 3 sc_Schema___init__.nd (by decide)) (sgs_cons (sg_tup C (sgs_cons (sg_name 5 sc_Schema___init__.nd (by decide)) (sgs_cons (sg_name 6 sc_Schema___init__.nd (by decide)) (sgs_cons (sg_name 7 sc_Schema___init__.nd (by decide)) sgs_nil)))) sgs_nil)))))))))⟩
abbrev s__law_schema : Stmt := top 33
abbrev N__law_schema : List Str := ["_law_world_here"]
theorem sc__law_schema : FnScope N__law_schema ["_law_world_here"] (defScope s__law_schema) := ⟨rfl, rfl, rfl, by decide +kernel, rfl, by decide +kernel, by decide +kernel⟩
def b__law_schema : EV → Out (Fl × EV) :=
  (sRet 1 (mNew m_Schema___init__ "Schema" [] (aCons (m2 ixA (mVar 0) (mC (.str "size"))) (aCons (mN listD (aCons (m2 ixA (mVar 0) (mC (.str "tables"))) aNil)) aNil))))
def m__law_schema : Mf := runF 1 1 b__law_schema
theorem ok__law_schema {f : Addr} {fd : FuncData} (Fu : Fun K "_law_schema" "_law_schema" s__law_schema f fd) (T : Bn mg) (n_Schema : Mkd P w K mg bs cl "Schema" 4 m_Schema___init__ [] []) : FnG P w K mg bs 6 f fd ["_law_world_here"] (SpF ⟨K, cl⟩ m__law_schema) := by
  refine fun_g Fu sc__law_schema fun cdv A out s H E C => ?_
  unfold b__law_schema
  exact ⟨_, (sb_one (ss_ret (se_new C n_Schema (sa_cons (se_ix (r_ixA C) v_ixA (se_var 0) se_str) (sa_cons (se_callTy (r_list C) v_list T.list (by decide +kernel) (sa_cons (se_ix (r_ixA C) v_ixA (se_var 0) se_str) sa_nil)) sa_nil)))))⟩
abbrev s__law_contents : Stmt := top 31
abbrev N__law_contents : List Str := ["_law_world_here", "_law_table", "_law_name", "_law_columns", "_law_keys", "_law_found", "_law_rests", "_law_key", "_law_longer", "_law_rest", "_law_one_here"]
theorem sc__law_contents : FnScope N__law_contents ["_law_world_here", "_law_table"] (defScope s__law_contents) := ⟨rfl, rfl, rfl, by decide +kernel, rfl, by decide +kernel, by decide +kernel⟩
def b__law_contents : EV → Out (Fl × EV) :=
  (sSeq (sTup (gT 3 (gsCons (gN 2 2) (gsCons (gN 2 3) (gsCons (gN 2 4) gsNil)))) (mVar 1))
    (sSeq (sPar2 2 5 false 6 false (mLst (aCons (mTup aNil) aNil)) (mFn m__law_tuples [] (aCons (m2 ixA (mVar 0) (mC (.str "size"))) (aCons (m2 subD (mN lenD (aCons (mVar 3) aNil)) (mVar 4)) aNil))))
    (sSeq (sFor (iQ (mFn m__law_tuples [] (aCons (m2 ixA (mVar 0) (mC (.str "size"))) (aCons (mVar 4) aNil)))) (gN 2 7) (sSeq (sSetV 2 8 (mN listD (aCons (mVar 5) aNil)))
    (sSeq (sFor (iQ (mVar 6)) (gN 2 9) (sSetV 2 8 (m2 addD (mVar 8) (mLc (iQ (mVar 5)) (gN 0 10) [10] mYes (m2 addD (mVar 10) (mTup (aCons (m2 addD (mVar 7) (mVar 9)) aNil)))))))
    (sSetV 2 5 (mVar 8)))))
    (sRet 2 (mVar 5)))))
def m__law_contents : Mf := runF 2 11 b__law_contents
theorem ok__law_contents {f : Addr} {fd : FuncData} (Fu : Fun K "_law_contents" "_law_contents" s__law_contents f fd) (T : Bn mg) (h__law_tuples : Fd P w K mg bs cl "_law_tuples" 1 m__law_tuples [] []) : FnG P w K mg bs 2 f fd ["_law_world_here", "_law_table"] (SpF ⟨K, cl⟩ m__law_contents) := by
  refine fun_g Fu sc__law_contents fun cdv A out s H E C => ?_
  unfold b__law_contents
  exact ⟨_, (sb_cons (ss_unpack (vs := [2, 3, 4]) (se_var 1) (sg_tup C (sgs_cons (sg_name 2 sc__law_contents.nd (by decide)) (sgs_cons (sg_name 3 sc__law_contents.nd (by decide)) (sgs_cons (sg_name 4 sc__law_contents.nd (by decide)) sgs_nil)))))
    (sb_cons (ss_par2 5 false 6 false C.calm sc__law_contents.nd (se_lst (sa_cons (se_tup sa_nil) sa_nil)) (se_fn C h__law_tuples (sa_cons (se_ix (r_ixA C) v_ixA (se_var 0) se_str) (sa_cons (se_bin op_sub v_sub (se_callB (r_len C) v_len T.len (by decide +kernel) (sa_cons (se_var 3) sa_nil)) (se_var 4)) sa_nil))))
    (sb_cons (ss_for (vs := [7]) own_passes C.calm (si_seq C (se_fn C h__law_tuples (sa_cons (se_ix (r_ixA C) v_ixA (se_var 0) se_str) (sa_cons (se_var 4) sa_nil)))) (sg_name 7 sc__law_contents.nd (by decide)) (sb_cons (ss_setV 8 sc__law_contents.nd (se_callTy (r_list C) v_list T.list (by decide +kernel) (sa_cons (se_var 5) sa_nil)))
    (sb_cons (ss_for (vs := [9]) own_passes C.calm (si_seq C (se_var 6)) (sg_name 9 sc__law_contents.nd (by decide)) (sb_one (ss_setV 8 sc__law_contents.nd (se_bin (or_add C) v_add (se_var 8) (se_lc [("_law_one_here", 10)] C.calm sc__law_contents.nd (si_seq C (se_var 5)) (blkOk_by (own := [("_law_one_here", 10)]) (N := N__law_contents) (sc := defScope s__law_contents) (by decide +kernel)) (fun _ _ _ _ _ => (sg_name 10 sc__law_contents.nd (by decide))) (fun _ _ _ _ _ => sps_nil) (fun _ _ _ _ _ => (se_bin (or_add C.blk) v_add (se_var 10) (se_tup (sa_cons (se_bin (or_add C.blk) v_add (se_var 7) (se_var 9)) sa_nil)))))))))
    (sb_one (ss_setV 5 sc__law_contents.nd (se_var 8))))))
    (sb_one (ss_ret (se_var 5))))))⟩
abbrev s__law_databases : Stmt := top 32
abbrev N__law_databases : List Str := ["_law_world_here", "_law_found", "_law_table", "_law_longer", "_law_one_here", "_law_part", "_law_ranked", "_law_row"]
theorem sc__law_databases : FnScope N__law_databases ["_law_world_here"] (defScope s__law_databases) := ⟨rfl, rfl, rfl, by decide +kernel, rfl, by decide +kernel, by decide +kernel⟩
def b__law_databases : EV → Out (Fl × EV) :=
  (sSeq (sSetV 1 1 (mLst (aCons (mTup aNil) aNil)))
    (sSeq (sFor (iQ (m2 ixA (mVar 0) (mC (.str "tables")))) (gN 1 2) (sSeq (sSetV 1 3 (mLst aNil))
    (sSeq (sFor (iQ (mVar 1)) (gN 1 4) (sSetV 1 3 (m2 addD (mVar 3) (mLc (iQ (mFn m__law_contents [] (aCons (mVar 0) (aCons (mVar 2) aNil)))) (gN 0 5) [5] mYes (m2 addD (mVar 4) (mTup (aCons (mVar 5) aNil)))))))
    (sSetV 1 1 (mVar 3)))))
    (sSeq (sSetV 1 6 (mN sortD (aCons (mLc (iQ (mVar 1)) (gN 0 4) [4] mYes (mTup (aCons (mN sumD (aCons (mLc (iQ (mVar 4)) (gN 0 5) [5] mYes (mN lenD (aCons (mVar 5) aNil))) aNil)) (aCons (mVar 4) aNil)))) aNil)))
    (sRet 1 (mLc (iQ (mVar 6)) (gN 0 7) [7] mYes (m2 ixA (mVar 7) (mC (.int 1))))))))
def m__law_databases : Mf := runF 1 8 b__law_databases
theorem ok__law_databases {f : Addr} {fd : FuncData} (Fu : Fun K "_law_databases" "_law_databases" s__law_databases f fd) (T : Bn mg) (h__law_contents : Fd P w K mg bs cl "_law_contents" 2 m__law_contents [] []) : FnG P w K mg bs 3 f fd ["_law_world_here"] (SpF ⟨K, cl⟩ m__law_databases) := by
  refine fun_g Fu sc__law_databases fun cdv A out s H E C => ?_
  unfold b__law_databases
  exact ⟨_, (sb_cons (ss_setV 1 sc__law_databases.nd (se_lst (sa_cons (se_tup sa_nil) sa_nil)))
    (sb_cons (ss_for (vs := [2]) own_passes C.calm (si_seq C (se_ix (r_ixA C) v_ixA (se_var 0) se_str)) (sg_name 2 sc__law_databases.nd (by decide)) (sb_cons (ss_setV 3 sc__law_databases.nd (se_lst sa_nil))
    (sb_cons (ss_for (vs := [4]) own_passes C.calm (si_seq C (se_var 1)) (sg_name 4 sc__law_databases.nd (by decide)) (sb_one (ss_setV 3 sc__law_databases.nd (se_bin (or_add C) v_add (se_var 3) (se_lc [("_law_part", 5)] C.calm sc__law_databases.nd (si_seq C (se_fn C h__law_contents (sa_cons (se_var 0) (sa_cons (se_var 2) sa_nil)))) (blkOk_by (own := [("_law_part", 5)]) (N := N__law_databases) (sc := defScope s__law_databases) (by decide +kernel)) (fun _ _ _ _ _ => (sg_name 5 sc__law_databases.nd (by decide))) (fun _ _ _ _ _ => sps_nil) (fun _ _ _ _ _ => (se_bin (or_add C.blk) v_add (se_var 4) (se_tup (sa_cons (se_var 5) sa_nil)))))))))
    (sb_one (ss_setV 1 sc__law_databases.nd (se_var 3))))))
    (sb_cons (ss_setV 6 sc__law_databases.nd (se_callB (r_sort C) v_sort T.sorted (by decide +kernel) (sa_cons (se_lc [("_law_one_here", 4)] C.calm sc__law_databases.nd (si_seq C (se_var 1)) (blkOk_by (own := [("_law_one_here", 4)]) (N := N__law_databases) (sc := defScope s__law_databases) (by decide +kernel)) (fun _ _ _ _ _ => (sg_name 4 sc__law_databases.nd (by decide))) (fun _ _ _ _ _ => sps_nil) (fun _ _ _ _ _ => (se_tup (sa_cons (se_callB (r_sum C.blk) v_sum T.sum (by decide +kernel) (sa_cons (se_lc [("_law_part", 5)] C.blk.calm sc__law_databases.nd (si_seq C.blk (se_var 4)) (blkOk_by (own := [("_law_part", 5)]) (N := N__law_databases) (sc := ({ kind := .function, names := [(".0", .local), ("_law_one_here", .local), ("sum", .globalImplicit)], isGenerator := false, isCoroutine := false, more := [] } : Scope)) (by decide +kernel)) (fun _ _ _ _ _ => (sg_name 5 sc__law_databases.nd (by decide))) (fun _ _ _ _ _ => sps_nil) (fun _ _ _ _ _ => (se_callB (r_len C.blk.blk) v_len T.len (by decide +kernel) (sa_cons (se_var 5) sa_nil)))) sa_nil)) (sa_cons (se_var 4) sa_nil))))) sa_nil)))
    (sb_one (ss_ret (se_lc [("_law_row", 7)] C.calm sc__law_databases.nd (si_seq C (se_var 6)) (blkOk_by (own := [("_law_row", 7)]) (N := N__law_databases) (sc := defScope s__law_databases) (by decide +kernel)) (fun _ _ _ _ _ => (sg_name 7 sc__law_databases.nd (by decide))) (fun _ _ _ _ _ => sps_nil) (fun _ _ _ _ _ => (se_ix (r_ixA C.blk) v_ixA (se_var 7) se_int))))))))⟩
abbrev s__law_one : Stmt := top 28
abbrev N__law_one : List Str := ["_law_bag_here", "_law_things"]
theorem sc__law_one : FnScope N__law_one ["_law_bag_here", "_law_things"] (defScope s__law_one) := ⟨rfl, rfl, rfl, by decide +kernel, rfl, by decide +kernel, by decide +kernel⟩
def b__law_one : EV → Out (Fl × EV) :=
  (sRet 2 (m2 ixA (mVar 1) (mFn m__law_take [] (aCons (mVar 0) (aCons (mN lenD (aCons (mVar 1) aNil)) aNil)))))
def m__law_one : Mf := runF 2 2 b__law_one
theorem ok__law_one {f : Addr} {fd : FuncData} (Fu : Fun K "_law_one" "_law_one" s__law_one f fd) (T : Bn mg) (h__law_take : Fd P w K mg bs cl "_law_take" 1 m__law_take [] []) : FnG P w K mg bs 2 f fd ["_law_bag_here", "_law_things"] (SpF ⟨K, cl⟩ m__law_one) := by
  refine fun_g Fu sc__law_one fun cdv A out s H E C => ?_
  unfold b__law_one
  exact ⟨_, (sb_one (ss_ret (se_ix (r_ixA C) v_ixA (se_var 1) (se_fn C h__law_take (sa_cons (se_var 0) (sa_cons (se_callB (r_len C) v_len T.len (by decide +kernel) (sa_cons (se_var 1) sa_nil)) sa_nil))))))⟩
abbrev s__law_world : Stmt := top 29
abbrev N__law_world : List Str := ["_law_bag_here", "_law_shapes", "_law_parts", "_law_names", "_law_tables", "_law_part", "_law_columns", "_law_some", "_law_k"]
theorem sc__law_world : FnScope N__law_world ["_law_bag_here", "_law_shapes"] (defScope s__law_world) := ⟨rfl, rfl, rfl, by decide +kernel, rfl, by decide +kernel, by decide +kernel⟩
def b__law_world : EV → Out (Fl × EV) :=
  (sSeq (sPar2 2 2 false 3 true (mM "str" splitD (mFn m__law_one [] (aCons (mVar 0) (aCons (mVar 1) aNil))) (aCons (mC (.str " ")) aNil)) (mLst (aCons (mC (.str "t")) (aCons (mC (.str "u")) (aCons (mC (.str "set")) (aCons (mC (.str "old")) (aCons (mC (.str "ab")) (aCons (mC (.str "k")) aNil))))))))
    (sSeq (sSetO 2 4 (mLst aNil))
    (sSeq (sFor (iQ (mSl (mVar 2) (pI (mC (.int 1))) pNo)) (gN 2 5) (sSeq (sSetO 2 6 (mLst (aCons (mC (.str "k")) (aCons (mC (.str "v")) (aCons (mC (.str "w")) (aCons (mC (.str "row")) (aCons (mC (.str "new")) (aCons (mC (.str "t")) aNil))))))))
    (sSeq (sSetV 2 7 (mLc (iR1 (aCons (mN intD (aCons (m2 ixA (mVar 5) (mC (.int 0))) aNil)) aNil)) (gN 0 8) [8] mYes (mMut "list" 6 uPopAt (aCons (mFn m__law_take [] (aCons (mVar 0) (aCons (mN lenD (aCons (mVar 6) aNil)) aNil))) aNil))))
    (sExpr (mMut "list" 4 uAppend (aCons (mTup (aCons (mMut "list" 3 uPopAt (aCons (mFn m__law_take [] (aCons (mVar 0) (aCons (mN lenD (aCons (mVar 3) aNil)) aNil))) aNil)) (aCons (mN tupleD (aCons (mVar 7) aNil)) (aCons (mN intD (aCons (m2 ixA (mVar 5) (mC (.int 1))) aNil)) aNil)))) aNil))))))
    (sFrz 2 4 (sRet 2 (mDisp (((mC (.str "size")), (mN intD (aCons (m2 ixA (mVar 2) (mC (.int 0))) aNil))) :: (((mC (.str "tables")), (mVar 4)) :: (((mC (.str "rules")), (mLst aNil)) :: (((mC (.str "pairs")), (mLst aNil)) :: []))))))))))
def m__law_world : Mf := runF 2 9 b__law_world
theorem ok__law_world {f : Addr} {fd : FuncData} (Fu : Fun K "_law_world" "_law_world" s__law_world f fd) (T : Bn mg) (h__law_take : Fd P w K mg bs cl "_law_take" 1 m__law_take [] []) (h__law_one : Fd P w K mg bs cl "_law_one" 2 m__law_one [] []) : FnG P w K mg bs 3 f fd ["_law_bag_here", "_law_shapes"] (SpF ⟨K, cl⟩ m__law_world) := by
  refine fun_g Fu sc__law_world fun cdv A out s H E C => ?_
  unfold b__law_world
  exact ⟨_, (sb_cons (ss_par2 2 false 3 true C.calm sc__law_world.nd (se_m C PySem.F.plainAttrs_str PySem.F.slot_str_split PySem.F.type_str_split mt_split v_split (se_fn C h__law_one (sa_cons (se_var 0) (sa_cons (se_var 1) sa_nil))) (sa_cons se_str sa_nil)) (se_lst (sa_cons se_str (sa_cons se_str (sa_cons se_str (sa_cons se_str (sa_cons se_str (sa_cons se_str sa_nil))))))))
    (sb_cons (ss_setO 4 sc__law_world.nd (se_lst sa_nil))
    (sb_cons (ss_for (vs := [5]) own_passes C.calm (si_seq C (se_slice C (se_var 2) (sp_some se_int) sp_no)) (sg_name 5 sc__law_world.nd (by decide)) (sb_cons (ss_setO 6 sc__law_world.nd (se_lst (sa_cons se_str (sa_cons se_str (sa_cons se_str (sa_cons se_str (sa_cons se_str (sa_cons se_str sa_nil))))))))
    (sb_cons (ss_setLcV 7 [("_law_k", 8)] C.calm sc__law_world.nd (sw_true rfl rfl rfl (by decide +kernel)) (si_range1 T.range (sa_cons (se_callTy or_int v_int T.int (by decide +kernel) (sa_cons (se_ix (r_ixA C) v_ixA (se_var 5) se_int) sa_nil)) sa_nil)) (blkOk_by (own := [("_law_k", 8)]) (N := N__law_world) (sc := defScope s__law_world) (by decide +kernel)) (fun _ _ _ _ _ => (sg_name 8 sc__law_world.nd (by decide))) (fun _ _ _ _ _ => sps_nil) (fun _ _ _ _ _ => (se_mut 6 C.blk PySem.F.plainAttrs_list PySem.F.slot_list_pop PySem.F.type_list_pop mt_popAt v_popAt (sa_cons (se_fn C.blk h__law_take (sa_cons (se_var 0) (sa_cons (se_callB (r_len C.blk) v_len T.len (by decide +kernel) (sa_cons (se_var 6) sa_nil)) sa_nil))) sa_nil))))
    (sb_one (ss_expr (se_mut 4 C PySem.F.plainAttrs_list PySem.F.slot_list_append PySem.F.type_list_append mt_append v_append (sa_cons (se_tup (sa_cons (se_mut 3 C PySem.F.plainAttrs_list PySem.F.slot_list_pop PySem.F.type_list_pop mt_popAt v_popAt (sa_cons (se_fn C h__law_take (sa_cons (se_var 0) (sa_cons (se_callB (r_len C) v_len T.len (by decide +kernel) (sa_cons (se_var 3) sa_nil)) sa_nil))) sa_nil)) (sa_cons (se_callTy (r_tuple C) v_tuple T.tuple (by decide +kernel) (sa_cons (se_var 7) sa_nil)) (sa_cons (se_callTy or_int v_int T.int (by decide +kernel) (sa_cons (se_ix (r_ixA C) v_ixA (se_var 5) se_int) sa_nil)) sa_nil)))) sa_nil)))))))
    (sb_one (ss_frz 4 (ss_ret (se_disp (SPp.cons se_str (se_callTy or_int v_int T.int (by decide +kernel) (sa_cons (se_ix (r_ixA C) v_ixA (se_var 2) se_int) sa_nil)) (SPp.cons se_str (se_var 4) (SPp.cons se_str (se_lst sa_nil) (SPp.cons se_str (se_lst sa_nil) SPp.nil)))))))))))⟩
abbrev s__law_bag : Stmt := top 25
abbrev N__law_bag : List Str := ["_law_script", "_law_cell"]
theorem sc__law_bag : FnScope N__law_bag ["_law_script"] (defScope s__law_bag) := ⟨rfl, rfl, rfl, by decide +kernel, rfl, by decide +kernel, by decide +kernel⟩
def b__law_bag : EV → Out (Fl × EV) :=
  (sRet 1 (mLst (aCons (mC (.int 0)) (aCons (mC (.int 1234567891)) (aCons (mC (.int 0)) (aCons (mLc (iQ (mSl (mVar 0) pNo (pI (mC (.int 63))))) (gN 0 1) [1] mYes (mN absD (aCons (mVar 1) aNil))) aNil))))))
def m__law_bag : Mf := runF 1 2 b__law_bag
theorem ok__law_bag {f : Addr} {fd : FuncData} (Fu : Fun K "_law_bag" "_law_bag" s__law_bag f fd) (T : Bn mg) : FnG P w K mg bs 1 f fd ["_law_script"] (SpF ⟨K, cl⟩ m__law_bag) := by
  refine fun_g Fu sc__law_bag fun cdv A out s H E C => ?_
  unfold b__law_bag
  exact ⟨_, (sb_one (ss_ret (se_lst (sa_cons se_int (sa_cons se_int (sa_cons se_int (sa_cons (se_lc [("_law_cell", 1)] C.calm sc__law_bag.nd (si_seq C (se_slice C (se_var 0) sp_no (sp_some se_int))) (blkOk_by (own := [("_law_cell", 1)]) (N := N__law_bag) (sc := defScope s__law_bag) (by decide +kernel)) (fun _ _ _ _ _ => (sg_name 1 sc__law_bag.nd (by decide))) (fun _ _ _ _ _ => sps_nil) (fun _ _ _ _ _ => (se_callB call_abs v_abs T.abs (by decide +kernel) (sa_cons (se_var 1) sa_nil)))) sa_nil)))))))⟩
abbrev s_law : Stmt := top 35
abbrev N_law : List Str := ["_law_script", "_law_bag_here", "_law_turn", "_law_shapes", "_law_world_here", "_law_schema_here", "_law_due", "_law_again", "_law_name", "_law_columns", "_law_keys", "_law_found", "_law_bound", "_law_told_here"]
theorem sc_law : FnScope N_law ["_law_script"] (defScope s_law) := ⟨rfl, rfl, rfl, by decide +kernel, rfl, by decide +kernel, by decide +kernel⟩
def b_law : EV → Out (Fl × EV) :=
  (sSeq (sSetO 1 1 (mFn m__law_bag [] (aCons (mVar 0) aNil)))
    (sSeq (sFor (iR1 (aCons (mC (.int 2)) aNil)) (gN 1 2) (sSeq (sSetV 1 3 (mLst (aCons (mC (.str "2 11")) (aCons (mC (.str "2 21 11")) (aCons (mC (.str "2 22")) (aCons (mC (.str "3 21")) (aCons (mC (.str "2 31 11")) (aCons (mC (.str "2 11 21 11")) (aCons (mC (.str "4 11")) (aCons (mC (.str "2 32")) (aCons (mC (.str "2 33")) (aCons (mC (.str "2 21 21")) aNil))))))))))))
    (sSeq (sSetV 1 4 (mFn m__law_world [] (aCons (mVar 1) (aCons (mVar 3) aNil))))
    (sSeq (sPar2 1 5 false 6 false (mFn m__law_schema [] (aCons (mVar 4) aNil)) (mFn m__law_databases [] (aCons (mVar 4) aNil)))
    (sFor (iR1 (aCons (mC (.int 3)) aNil)) (gN 1 7) (sSeq (sFor (iQ (m2 ixA (mVar 4) (mC (.str "tables")))) (gT 3 (gsCons (gN 1 8) (gsCons (gN 1 9) (gsCons (gN 1 10) gsNil)))) (sSeq (sSetO 1 11 (mMeth m_Schema_rows "Schema" "rows" [] (mVar 5) (aCons (mVar 8) aNil)))
    (sSeq (sIf (mNot (mB (mFn m__law_alike [] (aCons (mVar 11) (aCons (mFn m__law_tuples [] (aCons (m2 ixA (mVar 4) (mC (.str "size"))) (aCons (mN lenD (aCons (mVar 9) aNil)) aNil))) aNil))))) (sRet 1 (mC (.bool false))) sNext)
    (sSeq (sExpr (mMut "list" 11 uReverse aNil))
    (sExpr (mMut "list" 11 uAppend (aCons (mC .none) aNil)))))))
    (sFor (iQ (mLst (aCons (mC (.int 1000)) (aCons (mN lenD (aCons (mVar 6) aNil)) (aCons (m2 addD (mN lenD (aCons (mVar 6) aNil)) (mC (.int 1))) (aCons (m2 addD (mC (.int 1)) (mFn m__law_take [] (aCons (mVar 1) (aCons (mN lenD (aCons (mVar 6) aNil)) aNil)))) (aCons (mN maxD (aCons (mC (.int 1)) (aCons (m2 subD (mN lenD (aCons (mVar 6) aNil)) (mC (.int 1))) aNil))) aNil))))))) (gN 1 12) (sScopeB 1 13 1 2 (mFn m__law_told [] (aCons (mVar 5) (aCons (mVar 12) aNil))) (mNot (mB (mFn m__law_alike [] (aCons (mVar 13) (aCons (mIte (mB (m2 leD (mN lenD (aCons (mVar 6) aNil)) (mVar 12))) (mTup (aCons (mC (.str "told")) (aCons (mVar 6) aNil))) (mTup (aCons (mC (.str "many")) (aCons (mVar 12) aNil)))) aNil))))) (sRet 1 (mC (.bool false))) (mB (m2 eqD (m2 ixA (mVar 13) (mC (.int 0))) (mC (.str "told"))))))))))))
    (sRet 1 (mC (.bool true)))))
def m_law : Mf := runF 1 14 b_law
theorem ok_law {f : Addr} {fd : FuncData} (Fu : Fun K "law" "law" s_law f fd) (T : Bn mg) (h__law_take : Fd P w K mg bs cl "_law_take" 1 m__law_take [] []) (h__law_told : FdX P w K mg bs cl "_law_told" 5 m__law_told [] []) (h__law_alike : Fd P w K mg bs cl "_law_alike" 1 m__law_alike [] []) (h__law_tuples : Fd P w K mg bs cl "_law_tuples" 1 m__law_tuples [] []) (h_Schema_rows : Mth P w K mg bs cl "Schema" "rows" 2 m_Schema_rows [] []) (h__law_schema : Fd P w K mg bs cl "_law_schema" 6 m__law_schema [] []) (h__law_databases : Fd P w K mg bs cl "_law_databases" 3 m__law_databases [] []) (h__law_world : Fd P w K mg bs cl "_law_world" 3 m__law_world [] []) (h__law_bag : Fd P w K mg bs cl "_law_bag" 1 m__law_bag [] []) : FnG P w K mg bs 7 f fd ["_law_script"] (SpF ⟨K, cl⟩ m_law) := by
  refine fun_g Fu sc_law fun cdv A out s H E C => ?_
  unfold b_law
  exact ⟨_, (sb_cons (ss_setO 1 sc_law.nd (se_fn C h__law_bag (sa_cons (se_var 0) sa_nil)))
    (sb_cons (ss_for (vs := [2]) own_passes C.calm (si_range1 T.range (sa_cons se_int sa_nil)) (sg_name 2 sc_law.nd (by decide)) (sb_cons (ss_setV 3 sc_law.nd (se_lst (sa_cons se_str (sa_cons se_str (sa_cons se_str (sa_cons se_str (sa_cons se_str (sa_cons se_str (sa_cons se_str (sa_cons se_str (sa_cons se_str (sa_cons se_str sa_nil))))))))))))
    (sb_cons (ss_setV 4 sc_law.nd (se_fn C h__law_world (sa_cons (se_var 1) (sa_cons (se_var 3) sa_nil))))
    (sb_cons (ss_par2 5 false 6 false C.calm sc_law.nd (se_fn C h__law_schema (sa_cons (se_var 4) sa_nil)) (se_fn C h__law_databases (sa_cons (se_var 4) sa_nil)))
    (sb_one (ss_for (vs := [7]) own_passes C.calm (si_range1 T.range (sa_cons se_int sa_nil)) (sg_name 7 sc_law.nd (by decide)) (sb_cons (ss_for (vs := [8, 9, 10]) own_passes C.calm (si_seq C (se_ix (r_ixA C) v_ixA (se_var 4) se_str)) (sg_tup C (sgs_cons (sg_name 8 sc_law.nd (by decide)) (sgs_cons (sg_name 9 sc_law.nd (by decide)) (sgs_cons (sg_name 10 sc_law.nd (by decide)) sgs_nil)))) (sb_cons (ss_setO 11 sc_law.nd (se_meth C h_Schema_rows (se_var 5) (sa_cons (se_var 8) sa_nil)))
    (sb_cons (ss_if (sq_not (sq_val (se_fn C h__law_alike (sa_cons (se_var 11) (sa_cons (se_fn C h__law_tuples (sa_cons (se_ix (r_ixA C) v_ixA (se_var 4) se_str) (sa_cons (se_callB (r_len C) v_len T.len (by decide +kernel) (sa_cons (se_var 9) sa_nil)) sa_nil))) sa_nil))))) (sb_one (ss_ret se_bl)) sb_nil)
    (sb_cons (ss_expr (se_mut0 11 C PySem.F.plainAttrs_list PySem.F.slot_list_reverse PySem.F.type_list_reverse mt_reverse v_reverse))
    (sb_one (ss_expr (se_mut 11 C PySem.F.plainAttrs_list PySem.F.slot_list_append PySem.F.type_list_append mt_append v_append (sa_cons se_non sa_nil))))))))
    (sb_one (ss_for (vs := [12]) own_passes C.calm (si_seq C (se_lst (sa_cons se_int (sa_cons (se_callB (r_len C) v_len T.len (by decide +kernel) (sa_cons (se_var 6) sa_nil)) (sa_cons (se_bin (or_add C) v_add (se_callB (r_len C) v_len T.len (by decide +kernel) (sa_cons (se_var 6) sa_nil)) se_int) (sa_cons (se_bin (or_add C) v_add se_int (se_fn C h__law_take (sa_cons (se_var 1) (sa_cons (se_callB (r_len C) v_len T.len (by decide +kernel) (sa_cons (se_var 6) sa_nil)) sa_nil)))) (sa_cons (se_callB (call_max2 C.calm) v_max T.max (by decide +kernel) (sa_cons se_int (sa_cons (se_bin op_sub v_sub (se_callB (r_len C) v_len T.len (by decide +kernel) (sa_cons (se_var 6) sa_nil)) se_int) sa_nil))) sa_nil))))))) (sg_name 12 sc_law.nd (by decide)) (sb_scopeB 13 1 2 sc_law.nd (sex_fn C h__law_told (sa_cons (se_var 5) (sa_cons (se_var 12) sa_nil))) (sq_not (sq_val (se_fn C h__law_alike (sa_cons (se_var 13) (sa_cons (se_ite (sq_cmp op_le v_le (se_callB (r_len C) v_len T.len (by decide +kernel) (sa_cons (se_var 6) sa_nil)) (se_var 12) (nomark _)) (se_tup (sa_cons se_str (sa_cons (se_var 6) sa_nil))) (se_tup (sa_cons se_str (sa_cons (se_var 12) sa_nil)))) sa_nil))))) (sb_one (ss_ret se_bl)) (sq_cmp (r_eq C) v_eq (se_ix (r_ixA C) v_ixA (se_var 13) se_int) se_str (nomark _)) (.cons (mu_rev (k := 1) C) (.cons (mu_app (k := 1) C (hce := pe_non)) .nil))))))))))))
    (sb_one (ss_ret se_bl))))⟩
end
theorem all_mk {l : PySem.W.OpenLaw} {w : World} {K : PySem.W.Frag} {h : Heap} {mg : Str → Option Value} {fa : Addr} (X : K.In h) (G : h.Ns mainGlobals mg) (hfa : mg "law" = some (.ref fa))
    {t_LONGEST_NAME : Nat}
    {t_MOST_COLUMNS : Nat}
    {t_MOST_TABLES : Nat}
    {t_MOST_SIZE : Nat}
    {t_LEAST_SIZE : Nat}
    {C_Schema : Addr}
    {C_RuleError : Addr}
    {C_TooMany : Addr}
    {mcR : Value}
    {xn_TooMany xq_TooMany xm_TooMany xi_TooMany xo_TooMany xp_TooMany xr_TooMany xs_TooMany xt_TooMany xu_TooMany xv_TooMany xw_TooMany xx_TooMany xy_TooMany xz_TooMany}
    {fI_TooMany : Addr} {odI_TooMany anI_TooMany : Option Addr} {slI_TooMany : Array (Option Value)} {ocI_TooMany kVI_TooMany dcI_TooMany pmI_TooMany cdI_TooMany ctI_TooMany : Value}
    {f0 : Addr} {od0 an0 : Option Addr} {sl0 : Array (Option Value)} {oc0 kV0 dc0 pm0 cd0 ct0 : Value}
    {f1 : Addr} {od1 an1 : Option Addr} {sl1 : Array (Option Value)} {oc1 kV1 dc1 pm1 cd1 ct1 : Value}
    {f2 : Addr} {od2 an2 : Option Addr} {sl2 : Array (Option Value)} {oc2 kV2 dc2 pm2 cd2 ct2 : Value}
    {f3 : Addr} {od3 an3 : Option Addr} {sl3 : Array (Option Value)} {oc3 kV3 dc3 pm3 cd3 ct3 : Value}
    {f4 : Addr} {od4 an4 : Option Addr} {sl4 : Array (Option Value)} {oc4 kV4 dc4 pm4 cd4 ct4 : Value}
    {f5 : Addr} {od5 an5 : Option Addr} {sl5 : Array (Option Value)} {oc5 kV5 dc5 pm5 cd5 ct5 : Value}
    {q5 : Addr} {rs5 : List Value}
    {f6 : Addr} {od6 an6 : Option Addr} {sl6 : Array (Option Value)} {oc6 dc6 pm6 cd6 ct6 : Value}
    {D6 : Addr} {tk6 : Nat}
    {f7 : Addr} {od7 an7 : Option Addr} {sl7 : Array (Option Value)} {oc7 kV7 dc7 pm7 cd7 ct7 : Value}
    {f8 : Addr} {od8 an8 : Option Addr} {sl8 : Array (Option Value)} {oc8 kV8 dc8 pm8 cd8 ct8 : Value}
    {f9 : Addr} {od9 an9 : Option Addr} {sl9 : Array (Option Value)} {oc9 kV9 dc9 pm9 cd9 ct9 : Value}
    {f10 : Addr} {od10 an10 : Option Addr} {sl10 : Array (Option Value)} {oc10 kV10 dc10 pm10 cd10 ct10 : Value}
    {f11 : Addr} {od11 an11 : Option Addr} {sl11 : Array (Option Value)} {oc11 kV11 dc11 pm11 cd11 ct11 : Value}
    {f12 : Addr} {od12 an12 : Option Addr} {sl12 : Array (Option Value)} {oc12 kV12 dc12 pm12 cd12 ct12 : Value}
    {f13 : Addr} {od13 an13 : Option Addr} {sl13 : Array (Option Value)} {oc13 kV13 dc13 pm13 cd13 ct13 : Value}
    {f14 : Addr} {od14 an14 : Option Addr} {sl14 : Array (Option Value)} {oc14 kV14 dc14 pm14 cd14 ct14 : Value}
    {f15 : Addr} {od15 an15 : Option Addr} {sl15 : Array (Option Value)} {oc15 kV15 dc15 pm15 cd15 ct15 : Value}
    {f16 : Addr} {od16 an16 : Option Addr} {sl16 : Array (Option Value)} {oc16 kV16 dc16 pm16 cd16 ct16 : Value}
    {f17 : Addr} {od17 an17 : Option Addr} {sl17 : Array (Option Value)} {oc17 kV17 dc17 pm17 cd17 ct17 : Value}
    {f18 : Addr} {od18 an18 : Option Addr} {sl18 : Array (Option Value)} {oc18 kV18 dc18 pm18 cd18 ct18 : Value}
    {f19 : Addr} {od19 an19 : Option Addr} {sl19 : Array (Option Value)} {oc19 kV19 dc19 pm19 cd19 ct19 : Value}
    {f20 : Addr} {od20 an20 : Option Addr} {sl20 : Array (Option Value)} {oc20 kV20 dc20 pm20 cd20 ct20 : Value}
    {f21 : Addr} {od21 an21 : Option Addr} {sl21 : Array (Option Value)} {oc21 kV21 dc21 pm21 cd21 ct21 : Value}
    {f22 : Addr} {od22 an22 : Option Addr} {sl22 : Array (Option Value)} {oc22 kV22 dc22 pm22 cd22 ct22 : Value}
    {f23 : Addr} {od23 an23 : Option Addr} {sl23 : Array (Option Value)} {oc23 kV23 dc23 pm23 cd23 ct23 : Value}
    {f24 : Addr} {od24 an24 : Option Addr} {sl24 : Array (Option Value)} {oc24 kV24 dc24 pm24 cd24 ct24 : Value}
    (g_LONGEST_NAME : PySem.W.nsIn K mainGlobals "LONGEST_NAME" = some (some (Value.int 8 t_LONGEST_NAME)))
    (g_MOST_COLUMNS : PySem.W.nsIn K mainGlobals "MOST_COLUMNS" = some (some (Value.int 3 t_MOST_COLUMNS)))
    (g_MOST_TABLES : PySem.W.nsIn K mainGlobals "MOST_TABLES" = some (some (Value.int 3 t_MOST_TABLES)))
    (g_MOST_SIZE : PySem.W.nsIn K mainGlobals "MOST_SIZE" = some (some (Value.int 4 t_MOST_SIZE)))
    (g_LEAST_SIZE : PySem.W.nsIn K mainGlobals "LEAST_SIZE" = some (some (Value.int 2 t_LEAST_SIZE)))
    (aC_Schema : PySem.W.nsIn K mainGlobals "Schema" = some (some (.ref C_Schema))) (pg_Schema : PySem.W.plainGet K C_Schema Str.empty = true) (hd_Schema : PySem.W.hasDictIn K C_Schema = true) (po_Schema : PySem.W.plainOver K C_Schema = true) (sa_Schema : PySem.W.findIn K (.ref C_Schema) "__setattr__" = some (some (.builtin "object.__setattr__"))) (mk_Schema : PySem.W.makesIn K C_Schema = true) (kc_Schema : PySem.W.keepIn K (.ref C_Schema) = true)
    (aC_RuleError : PySem.W.nsIn K mainGlobals "RuleError" = some (some (.ref C_RuleError)))
    (aC_TooMany : PySem.W.nsIn K mainGlobals "TooMany" = some (some (.ref C_TooMany)))
    (tyR : PySem.W.typeIn K (.ref C_RuleError) = some mcR) (rdR : PySem.W.readsIn K C_RuleError mcR = true) (atR : PySem.W.findCls K (.ref C_RuleError) mcR "__init__" = some (.val (.builtin "ValueError.__init__"))) (gaR : PySem.W.specialIn K (.ref C_RuleError) "__getattribute__" = some (some (.builtin "type.__getattribute__")))
    (lx_TooMany : K.lookup C_TooMany = some (excClassObj xn_TooMany xq_TooMany C_TooMany xm_TooMany xz_TooMany xi_TooMany true xo_TooMany xp_TooMany xr_TooMany xs_TooMany xt_TooMany xu_TooMany xv_TooMany xw_TooMany xx_TooMany xy_TooMany "ValueError.__new__")) (rv_TooMany : PySem.HandSPX.refsVE xi_TooMany = true) (sa_TooMany : PySem.W.findIn K (.ref C_TooMany) "__setattr__" = some (some (.builtin "object.__setattr__"))) (be_TooMany : PySem.W.subIn K (.ref C_TooMany) (.type "BaseException") = some true) (ty_TooMany : PySem.W.typeIn K (.ref C_TooMany) = some (.type "type")) (kc_TooMany : PySem.W.keepIn K (.ref C_TooMany) = true) (in_TooMany : PySem.W.findIn K (.ref C_TooMany) "__init__" = some (some (.ref fI_TooMany))) (ti_TooMany : PySem.W.typeIn K (.ref fI_TooMany) = some (.type "function")) (nf_TooMany : PySem.W.findIn K (.ref C_TooMany) "limit" = some none) (lI_TooMany : K.lookup fI_TooMany = some ⟨ocI_TooMany, odI_TooMany, .func (PySem.W.fnOf "__init__" "TooMany.__init__" (defArgs s_TooMany___init__) (defBody s_TooMany___init__) (defScope s_TooMany___init__) .none kVI_TooMany dcI_TooMany pmI_TooMany anI_TooMany cdI_TooMany ctI_TooMany), slI_TooMany⟩) (cI_TooMany : PySem.W.codeIn K cdI_TooMany "TooMany.__init__" = true) (kI_TooMany : PySem.W.keepIn K (.ref fI_TooMany) = true)
    (ggE : PySem.W.specialIn K (.builtin "object.__class__") "__get__" = some (some (.builtin "getset_descriptor.__get__"))) (tkE : PySem.W.takesIn K (.builtin "object.__class__") = some true)
    (ga_TooMany : PySem.W.findIn K (.ref C_TooMany) "__getattribute__" = some (some (.builtin "BaseException.__getattribute__"))) (gt_TooMany : PySem.W.findIn K (.ref C_TooMany) "__getattr__" = some none) (su_TooMany : PySem.W.subIn K (.ref C_TooMany) (.type "BaseException") = some true) (hd_TooMany : PySem.W.hasDictIn K C_TooMany = true) (cc_TooMany : PySem.W.findIn K (.ref C_TooMany) "__class__" = some (some (.builtin "object.__class__"))) (mr_TooMany : PySem.W.mroIn K C_TooMany (.type "object") = some true)
    (sx_TooMany : PySem.W.subIn K (.ref C_TooMany) (.type "BaseException") = some true) (hx_TooMany : PySem.W.hasDictIn K C_TooMany = true) (tx_TooMany : PySem.W.typeIn K (.ref C_TooMany) = some (.type "type"))
    (em_TooMany_TooMany : PySem.W.subIn K (.ref C_TooMany) (.ref C_TooMany) = some true)
    (nf_Schema_own_tables : PySem.W.findIn K (.ref C_Schema) "own_tables" = some none)
    (nf_Schema_value_count : PySem.W.findIn K (.ref C_Schema) "value_count" = some none)
    (nf_Schema_spots : PySem.W.findIn K (.ref C_Schema) "spots" = some none)
    (a0 : PySem.W.nsIn K mainGlobals "_law_take" = some (some (.ref f0))) (l0 : K.lookup f0 = some ⟨oc0, od0, .func (PySem.W.fnOf "_law_take" "_law_take" (defArgs s__law_take) (defBody s__law_take) (defScope s__law_take) .none kV0 dc0 pm0 an0 cd0 ct0), sl0⟩) (c0 : PySem.W.codeIn K cd0 "_law_take" = true) (k0 : PySem.W.keepIn K (.ref f0) = true)
    (a1 : PySem.W.nsIn K mainGlobals "rank_of" = some (some (.ref f1))) (l1 : K.lookup f1 = some ⟨oc1, od1, .func (PySem.W.fnOf "rank_of" "rank_of" (defArgs s_rank_of) (defBody s_rank_of) (defScope s_rank_of) .none kV1 dc1 pm1 an1 cd1 ct1), sl1⟩) (c1 : PySem.W.codeIn K cd1 "rank_of" = true) (k1 : PySem.W.keepIn K (.ref f1) = true)
    (a2 : PySem.W.nsIn K mainGlobals "tuples_of" = some (some (.ref f2))) (l2 : K.lookup f2 = some ⟨oc2, od2, .func (PySem.W.fnOf "tuples_of" "tuples_of" (defArgs s_tuples_of) (defBody s_tuples_of) (defScope s_tuples_of) .none kV2 dc2 pm2 an2 cd2 ct2), sl2⟩) (c2 : PySem.W.codeIn K cd2 "tuples_of" = true) (k2 : PySem.W.keepIn K (.ref f2) = true)
    (a3 : PySem.W.nsIn K mainGlobals "contents_of" = some (some (.ref f3))) (l3 : K.lookup f3 = some ⟨oc3, od3, .func (PySem.W.fnOf "contents_of" "contents_of" (defArgs s_contents_of) (defBody s_contents_of) (defScope s_contents_of) .none kV3 dc3 pm3 an3 cd3 ct3), sl3⟩) (c3 : PySem.W.codeIn K cd3 "contents_of" = true) (k3 : PySem.W.keepIn K (.ref f3) = true)
    (a4 : PySem.W.nsIn K mainGlobals "power" = some (some (.ref f4))) (l4 : K.lookup f4 = some ⟨oc4, od4, .func (PySem.W.fnOf "power" "power" (defArgs s_power) (defBody s_power) (defScope s_power) .none kV4 dc4 pm4 an4 cd4 ct4), sl4⟩) (c4 : PySem.W.codeIn K cd4 "power" = true) (k4 : PySem.W.keepIn K (.ref f4) = true)
    (a5 : PySem.W.findIn K (.ref C_Schema) "many" = some (some (.ref q5))) (i5 : PySem.W.specialIn K (.ref q5) "__get__" = some (some (.builtin "property.__get__"))) (j5 : PySem.W.takesIn K (.ref q5) = some true) (r5 : PySem.W.recIn K q5 "property" = some (.ref f5 :: rs5)) (l5 : K.lookup f5 = some ⟨oc5, od5, .func (PySem.W.fnOf "many" "Schema.many" (defArgs s_Schema_many) (defBody s_Schema_many) (defScope s_Schema_many) .none kV5 dc5 pm5 an5 cd5 ct5), sl5⟩) (c5 : PySem.W.codeIn K cd5 "Schema.many" = true) (k5 : PySem.W.keepIn K (.ref f5) = true)
    (a6 : PySem.W.findIn K (.ref C_Schema) "databases" = some (some (.ref f6))) (i6 : PySem.W.isFn K (.ref f6) = true) (l6 : K.lookup f6 = some ⟨oc6, od6, .func (PySem.W.fnOf "databases" "Schema.databases" (defArgs s_Schema_databases) (defBody s_Schema_databases) (defScope s_Schema_databases) .none (.ref D6) dc6 pm6 an6 cd6 ct6), sl6⟩) (c6 : PySem.W.codeIn K cd6 "Schema.databases" = true) (k6 : PySem.W.keepIn K (.ref f6) = true) (lD6 : PySem.W.nsIn K D6 "most" = some (some (Value.int 1000 tk6)))
    (a7 : PySem.W.nsIn K mainGlobals "_law_told" = some (some (.ref f7))) (l7 : K.lookup f7 = some ⟨oc7, od7, .func (PySem.W.fnOf "_law_told" "_law_told" (defArgs s__law_told) (defBody s__law_told) (defScope s__law_told) .none kV7 dc7 pm7 an7 cd7 ct7), sl7⟩) (c7 : PySem.W.codeIn K cd7 "_law_told" = true) (k7 : PySem.W.keepIn K (.ref f7) = true)
    (a8 : PySem.W.nsIn K mainGlobals "_law_alike" = some (some (.ref f8))) (l8 : K.lookup f8 = some ⟨oc8, od8, .func (PySem.W.fnOf "_law_alike" "_law_alike" (defArgs s__law_alike) (defBody s__law_alike) (defScope s__law_alike) .none kV8 dc8 pm8 an8 cd8 ct8), sl8⟩) (c8 : PySem.W.codeIn K cd8 "_law_alike" = true) (k8 : PySem.W.keepIn K (.ref f8) = true)
    (a9 : PySem.W.nsIn K mainGlobals "_law_tuples" = some (some (.ref f9))) (l9 : K.lookup f9 = some ⟨oc9, od9, .func (PySem.W.fnOf "_law_tuples" "_law_tuples" (defArgs s__law_tuples) (defBody s__law_tuples) (defScope s__law_tuples) .none kV9 dc9 pm9 an9 cd9 ct9), sl9⟩) (c9 : PySem.W.codeIn K cd9 "_law_tuples" = true) (k9 : PySem.W.keepIn K (.ref f9) = true)
    (a10 : PySem.W.findIn K (.ref C_Schema) "columns" = some (some (.ref f10))) (i10 : PySem.W.isFn K (.ref f10) = true) (l10 : K.lookup f10 = some ⟨oc10, od10, .func (PySem.W.fnOf "columns" "Schema.columns" (defArgs s_Schema_columns) (defBody s_Schema_columns) (defScope s_Schema_columns) .none kV10 dc10 pm10 an10 cd10 ct10), sl10⟩) (c10 : PySem.W.codeIn K cd10 "Schema.columns" = true) (k10 : PySem.W.keepIn K (.ref f10) = true)
    (a11 : PySem.W.findIn K (.ref C_Schema) "rows" = some (some (.ref f11))) (i11 : PySem.W.isFn K (.ref f11) = true) (l11 : K.lookup f11 = some ⟨oc11, od11, .func (PySem.W.fnOf "rows" "Schema.rows" (defArgs s_Schema_rows) (defBody s_Schema_rows) (defScope s_Schema_rows) .none kV11 dc11 pm11 an11 cd11 ct11), sl11⟩) (c11 : PySem.W.codeIn K cd11 "Schema.rows" = true) (k11 : PySem.W.keepIn K (.ref f11) = true)
    (a12 : PySem.W.nsIn K mainGlobals "is_integer" = some (some (.ref f12))) (l12 : K.lookup f12 = some ⟨oc12, od12, .func (PySem.W.fnOf "is_integer" "is_integer" (defArgs s_is_integer) (defBody s_is_integer) (defScope s_is_integer) .none kV12 dc12 pm12 an12 cd12 ct12), sl12⟩) (c12 : PySem.W.codeIn K cd12 "is_integer" = true) (k12 : PySem.W.keepIn K (.ref f12) = true)
    (a13 : PySem.W.nsIn K mainGlobals "is_between" = some (some (.ref f13))) (l13 : K.lookup f13 = some ⟨oc13, od13, .func (PySem.W.fnOf "is_between" "is_between" (defArgs s_is_between) (defBody s_is_between) (defScope s_is_between) .none kV13 dc13 pm13 an13 cd13 ct13), sl13⟩) (c13 : PySem.W.codeIn K cd13 "is_between" = true) (k13 : PySem.W.keepIn K (.ref f13) = true)
    (a14 : PySem.W.nsIn K mainGlobals "is_name" = some (some (.ref f14))) (l14 : K.lookup f14 = some ⟨oc14, od14, .func (PySem.W.fnOf "is_name" "is_name" (defArgs s_is_name) (defBody s_is_name) (defScope s_is_name) .none kV14 dc14 pm14 an14 cd14 ct14), sl14⟩) (c14 : PySem.W.codeIn K cd14 "is_name" = true) (k14 : PySem.W.keepIn K (.ref f14) = true)
    (a15 : PySem.W.nsIn K mainGlobals "is_table" = some (some (.ref f15))) (l15 : K.lookup f15 = some ⟨oc15, od15, .func (PySem.W.fnOf "is_table" "is_table" (defArgs s_is_table) (defBody s_is_table) (defScope s_is_table) .none kV15 dc15 pm15 an15 cd15 ct15), sl15⟩) (c15 : PySem.W.codeIn K cd15 "is_table" = true) (k15 : PySem.W.keepIn K (.ref f15) = true)
    (a16 : PySem.W.nsIn K mainGlobals "are_listed" = some (some (.ref f16))) (l16 : K.lookup f16 = some ⟨oc16, od16, .func (PySem.W.fnOf "are_listed" "are_listed" (defArgs s_are_listed) (defBody s_are_listed) (defScope s_are_listed) .none kV16 dc16 pm16 an16 cd16 ct16), sl16⟩) (c16 : PySem.W.codeIn K cd16 "are_listed" = true) (k16 : PySem.W.keepIn K (.ref f16) = true)
    (a17 : PySem.W.findIn K (.ref C_Schema) "__init__" = some (some (.ref f17))) (i17 : PySem.W.isFn K (.ref f17) = true) (l17 : K.lookup f17 = some ⟨oc17, od17, .func (PySem.W.fnOf "__init__" "Schema.__init__" (defArgs s_Schema___init__) (defBody s_Schema___init__) (defScope s_Schema___init__) .none kV17 dc17 pm17 an17 cd17 ct17), sl17⟩) (c17 : PySem.W.codeIn K cd17 "Schema.__init__" = true) (k17 : PySem.W.keepIn K (.ref f17) = true)
    (a18 : PySem.W.nsIn K mainGlobals "_law_schema" = some (some (.ref f18))) (l18 : K.lookup f18 = some ⟨oc18, od18, .func (PySem.W.fnOf "_law_schema" "_law_schema" (defArgs s__law_schema) (defBody s__law_schema) (defScope s__law_schema) .none kV18 dc18 pm18 an18 cd18 ct18), sl18⟩) (c18 : PySem.W.codeIn K cd18 "_law_schema" = true) (k18 : PySem.W.keepIn K (.ref f18) = true)
    (a19 : PySem.W.nsIn K mainGlobals "_law_contents" = some (some (.ref f19))) (l19 : K.lookup f19 = some ⟨oc19, od19, .func (PySem.W.fnOf "_law_contents" "_law_contents" (defArgs s__law_contents) (defBody s__law_contents) (defScope s__law_contents) .none kV19 dc19 pm19 an19 cd19 ct19), sl19⟩) (c19 : PySem.W.codeIn K cd19 "_law_contents" = true) (k19 : PySem.W.keepIn K (.ref f19) = true)
    (a20 : PySem.W.nsIn K mainGlobals "_law_databases" = some (some (.ref f20))) (l20 : K.lookup f20 = some ⟨oc20, od20, .func (PySem.W.fnOf "_law_databases" "_law_databases" (defArgs s__law_databases) (defBody s__law_databases) (defScope s__law_databases) .none kV20 dc20 pm20 an20 cd20 ct20), sl20⟩) (c20 : PySem.W.codeIn K cd20 "_law_databases" = true) (k20 : PySem.W.keepIn K (.ref f20) = true)
    (a21 : PySem.W.nsIn K mainGlobals "_law_one" = some (some (.ref f21))) (l21 : K.lookup f21 = some ⟨oc21, od21, .func (PySem.W.fnOf "_law_one" "_law_one" (defArgs s__law_one) (defBody s__law_one) (defScope s__law_one) .none kV21 dc21 pm21 an21 cd21 ct21), sl21⟩) (c21 : PySem.W.codeIn K cd21 "_law_one" = true) (k21 : PySem.W.keepIn K (.ref f21) = true)
    (a22 : PySem.W.nsIn K mainGlobals "_law_world" = some (some (.ref f22))) (l22 : K.lookup f22 = some ⟨oc22, od22, .func (PySem.W.fnOf "_law_world" "_law_world" (defArgs s__law_world) (defBody s__law_world) (defScope s__law_world) .none kV22 dc22 pm22 an22 cd22 ct22), sl22⟩) (c22 : PySem.W.codeIn K cd22 "_law_world" = true) (k22 : PySem.W.keepIn K (.ref f22) = true)
    (a23 : PySem.W.nsIn K mainGlobals "_law_bag" = some (some (.ref f23))) (l23 : K.lookup f23 = some ⟨oc23, od23, .func (PySem.W.fnOf "_law_bag" "_law_bag" (defArgs s__law_bag) (defBody s__law_bag) (defScope s__law_bag) .none kV23 dc23 pm23 an23 cd23 ct23), sl23⟩) (c23 : PySem.W.codeIn K cd23 "_law_bag" = true) (k23 : PySem.W.keepIn K (.ref f23) = true)
    (a24 : PySem.W.nsIn K mainGlobals "law" = some (some (.ref f24))) (l24 : K.lookup f24 = some ⟨oc24, od24, .func (PySem.W.fnOf "law" "law" (defArgs s_law) (defBody s_law) (defScope s_law) .none kV24 dc24 pm24 an24 cd24 ct24), sl24⟩) (c24 : PySem.W.codeIn K cd24 "law" = true) (k24 : PySem.W.keepIn K (.ref f24) = true)
    (n_len : PySem.W.nsIn K mainGlobals "len" = some none)
    (n_range : PySem.W.nsIn K mainGlobals "range" = some none)
    (n_isinstance : PySem.W.nsIn K mainGlobals "isinstance" = some none)
    (n_all : PySem.W.nsIn K mainGlobals "all" = some none)
    (n_any : PySem.W.nsIn K mainGlobals "any" = some none)
    (n_tuple : PySem.W.nsIn K mainGlobals "tuple" = some none)
    (n_list : PySem.W.nsIn K mainGlobals "list" = some none)
    (n_sorted : PySem.W.nsIn K mainGlobals "sorted" = some none)
    (n_set : PySem.W.nsIn K mainGlobals "set" = some none)
    (n_sum : PySem.W.nsIn K mainGlobals "sum" = some none)
    (n_repr : PySem.W.nsIn K mainGlobals "repr" = some none)
    (n_int : PySem.W.nsIn K mainGlobals "int" = some none)
    (n_abs : PySem.W.nsIn K mainGlobals "abs" = some none)
    (n_max : PySem.W.nsIn K mainGlobals "max" = some none)
    (n_min : PySem.W.nsIn K mainGlobals "min" = some none)
    (n_enumerate : PySem.W.nsIn K mainGlobals "enumerate" = some none)
    (n_zip : PySem.W.nsIn K mainGlobals "zip" = some none)
    (n_str : PySem.W.nsIn K mainGlobals "str" = some none)
    (n_bool : PySem.W.nsIn K mainGlobals "bool" = some none)
    (n_dict : PySem.W.nsIn K mainGlobals "dict" = some none) :
    ∃ fd : FuncData, (∀ (s : Shared) (v : Value), BindsTo s fd ⟨[v], []⟩ [("_law_script", v)]) ∧ ∀ bs : Heap, K.In bs → bs.Ns mainGlobals mg → FnG l.prog w K mg bs 7 fa fd ["_law_script"] (fun vs H Q E => ∀ cl, SpF ⟨K, cl⟩ m_law vs H Q E) := by
  obtain ⟨cl, cl_Schema, cl_RuleError, cl_TooMany⟩ : ∃ cl : Str → Addr, C_Schema = cl "Schema" ∧ C_RuleError = cl "RuleError" ∧ C_TooMany = cl "TooMany" := ⟨fun c => (if c = "Schema" then C_Schema else (if c = "RuleError" then C_RuleError else C_TooMany)), by first | rfl | decide | (dsimp only; rfl) | (simp; done), by first | rfl | decide | (dsimp only; rfl) | (simp; done), by first | rfl | decide | (dsimp only; rfl) | (simp; done)⟩
  subst cl_Schema cl_RuleError cl_TooMany
  have e := hfa.symm.trans (PySem.W.mg_of X G a24)
  cases e
  have T : Bn mg := ⟨PySem.W.mg_none_of X G n_len, PySem.W.mg_none_of X G n_range, PySem.W.mg_none_of X G n_isinstance, PySem.W.mg_none_of X G n_all, PySem.W.mg_none_of X G n_any, PySem.W.mg_none_of X G n_tuple, PySem.W.mg_none_of X G n_list, PySem.W.mg_none_of X G n_sorted, PySem.W.mg_none_of X G n_set, PySem.W.mg_none_of X G n_sum, PySem.W.mg_none_of X G n_repr, PySem.W.mg_none_of X G n_int, PySem.W.mg_none_of X G n_abs, PySem.W.mg_none_of X G n_max, PySem.W.mg_none_of X G n_min, PySem.W.mg_none_of X G n_enumerate, PySem.W.mg_none_of X G n_zip, PySem.W.mg_none_of X G n_str, PySem.W.mg_none_of X G n_bool, PySem.W.mg_none_of X G n_dict⟩
  have c_LONGEST_NAME := gc_int X G g_LONGEST_NAME
  have c_MOST_COLUMNS := gc_int X G g_MOST_COLUMNS
  have c_MOST_TABLES := gc_int X G g_MOST_TABLES
  have c_MOST_SIZE := gc_int X G g_MOST_SIZE
  have c_LEAST_SIZE := gc_int X G g_LEAST_SIZE
  have k_Schema : Cls K (cl "Schema") := ⟨pg_Schema, hd_Schema, po_Schema, sa_Schema⟩
  have FI_TooMany := fun_mk (st := s_TooMany___init__) lI_TooMany cI_TooMany kI_TooMany
  have ee_cs : ∀ c ∈ (["TooMany"] : List Str), ExcE K (cl c) := by
    intro c hc; simp only [List.mem_cons, List.not_mem_nil, or_false] at hc
    rcases hc with rfl
    · exact ⟨ga_TooMany, gt_TooMany, su_TooMany, hd_TooMany, cc_TooMany, ggE, tkE, mr_TooMany⟩
  have xf_TooMany : XfC K (cl "TooMany") := (ee_cs "TooMany" (by simp)).xf
  have nox_TooMany := nf_TooMany
  have y_TooMany : TryB K mg cl "TooMany" ["TooMany"] [] (.ref (cl "TooMany")) := by
    refine ⟨PySem.W.mg_of X G aC_TooMany, ?_, fun c hc => by cases hc⟩
    intro c hc; simp only [List.mem_cons, List.not_mem_nil, or_false] at hc
    rcases hc with rfl
    · exact exm_own em_TooMany_TooMany sx_TooMany hx_TooMany tx_TooMany
  have no_Schema_own_tables : NoAttr K (cl "Schema") "own_tables" := nf_Schema_own_tables
  have no_Schema_value_count : NoAttr K (cl "Schema") "value_count" := nf_Schema_value_count
  have no_Schema_spots : NoAttr K (cl "Schema") "spots" := nf_Schema_spots
  have F0 := fun_mk (st := s__law_take) l0 c0 k0
  have F1 := fun_mk (st := s_rank_of) l1 c1 k1
  have F2 := fun_mk (st := s_tuples_of) l2 c2 k2
  have F3 := fun_mk (st := s_contents_of) l3 c3 k3
  have F4 := fun_mk (st := s_power) l4 c4 k4
  have F5 := fun_mk (st := s_Schema_many) l5 c5 k5
  have F6 := funk_mk (st := s_Schema_databases) l6 lD6 c6 k6
  obtain ⟨ds6, vd6, bd6⟩ := funk_dflt F6 (ps := ["self", "most"]) rfl (fun _ _ _ _ _ _ _ _ => ⟨_, _, _, _, _, _, rfl, rfl, rfl⟩)
  have F7 := fun_mk (st := s__law_told) l7 c7 k7
  have F8 := fun_mk (st := s__law_alike) l8 c8 k8
  have F9 := fun_mk (st := s__law_tuples) l9 c9 k9
  have F10 := fun_mk (st := s_Schema_columns) l10 c10 k10
  have F11 := fun_mk (st := s_Schema_rows) l11 c11 k11
  have F12 := fun_mk (st := s_is_integer) l12 c12 k12
  have F13 := fun_mk (st := s_is_between) l13 c13 k13
  have F14 := fun_mk (st := s_is_name) l14 c14 k14
  have F15 := fun_mk (st := s_is_table) l15 c15 k15
  have F16 := fun_mk (st := s_are_listed) l16 c16 k16
  have F17 := fun_mk (st := s_Schema___init__) l17 c17 k17
  have F18 := fun_mk (st := s__law_schema) l18 c18 k18
  have F19 := fun_mk (st := s__law_contents) l19 c19 k19
  have F20 := fun_mk (st := s__law_databases) l20 c20 k20
  have F21 := fun_mk (st := s__law_one) l21 c21 k21
  have F22 := fun_mk (st := s__law_world) l22 c22 k22
  have F23 := fun_mk (st := s__law_bag) l23 c23 k23
  have F24 := fun_mk (st := s_law) l24 c24 k24
  refine ⟨PySem.W.fnOf "law" "law" (defArgs s_law) (defBody s_law) (defScope s_law) .none kV24 dc24 pm24 an24 cd24 ct24, fun s v => .of_eq rfl, fun bs _ _ => ?_⟩
  · have x_TooMany : ExcF K mg bs l.prog w (cl "TooMany") "TooMany" "limit" fI_TooMany := ⟨PySem.W.mg_of X G aC_TooMany, ⟨⟨_, _, _, _, _, _, _, _, _, _, _, _, _, _, _, lx_TooMany, rv_TooMany⟩, sa_TooMany, be_TooMany, ty_TooMany, kc_TooMany⟩, in_TooMany, ti_TooMany, nf_TooMany, _, "limit", ini_TooMany FI_TooMany (PySem.W.mg_of X G aC_RuleError) ⟨rdR, atR, gaR⟩, FI_TooMany.binds (ps := ["self", "limit"]) (fun _ _ _ _ _ _ us hl => match us, hl with | [_, _], _ => rfl)⟩
    have h__law_take : Fd l.prog w K mg bs cl "_law_take" 1 m__law_take [] [] := ⟨⟨_, _, _, _, ok__law_take F0 T, PySem.W.mg_of X G a0, k0, F0.binds (ps := ["_law_bag_here", "_law_many"]) (fun _ _ _ _ _ _ us hl => match us, hl with | [_, _], _ => rfl), .nil, fun _ => .nil⟩⟩
    have h_rank_of : Fd l.prog w K mg bs cl "rank_of" 1 m_rank_of [] [] := ⟨⟨_, _, _, _, ok_rank_of F1 T, PySem.W.mg_of X G a1, k1, F1.binds (ps := ["database"]) (fun _ _ _ _ _ _ us hl => match us, hl with | [_], _ => rfl), .nil, fun _ => .nil⟩⟩
    have h_tuples_of : Fd l.prog w K mg bs cl "tuples_of" 1 m_tuples_of [] [] := ⟨⟨_, _, _, _, ok_tuples_of F2 T, PySem.W.mg_of X G a2, k2, F2.binds (ps := ["size", "many"]) (fun _ _ _ _ _ _ us hl => match us, hl with | [_, _], _ => rfl), .nil, fun _ => .nil⟩⟩
    have h_contents_of : Fd l.prog w K mg bs cl "contents_of" 2 m_contents_of [] [] := ⟨⟨_, _, _, _, ok_contents_of F3 T h_tuples_of, PySem.W.mg_of X G a3, k3, F3.binds (ps := ["size", "many", "keys"]) (fun _ _ _ _ _ _ us hl => match us, hl with | [_, _, _], _ => rfl), .nil, fun _ => .nil⟩⟩
    have h_power : Fd l.prog w K mg bs cl "power" 1 m_power [] [] := ⟨⟨_, _, _, _, ok_power F4 T, PySem.W.mg_of X G a4, k4, F4.binds (ps := ["base", "many"]) (fun _ _ _ _ _ _ us hl => match us, hl with | [_, _], _ => rfl), .nil, fun _ => .nil⟩⟩
    have h_Schema_many : Prp l.prog w K mg bs cl "Schema" "many" 2 m_Schema_many := ⟨k_Schema, ⟨_, _, _, _, ok_Schema_many F5 T h_power k_Schema no_Schema_own_tables no_Schema_value_count, ⟨a5, i5, j5, ⟨_, r5⟩⟩, F5.binds (ps := ["self"]) (fun _ _ _ _ _ _ us hl => match us, hl with | [_], _ => rfl)⟩⟩
    have h_Schema_databases : Mth l.prog w K mg bs cl "Schema" "databases" 4 m_Schema_databases [.int 1000] [.int 1000] := ⟨k_Schema, ⟨_, _, _, _, ok_Schema_databases F6 T h_rank_of h_contents_of h_Schema_many k_Schema no_Schema_own_tables no_Schema_value_count x_TooMany, ⟨a6, i6, k6⟩, bd6, vd6, fun _ => .cons (.int _) .nil⟩⟩
    have hk_Schema_databases : MthK l.prog w K mg bs cl "Schema" "databases" 4 m_Schema_databases "most" := ⟨k_Schema, ⟨_, _, _, ok_Schema_databases F6 T h_rank_of h_contents_of h_Schema_many k_Schema no_Schema_own_tables no_Schema_value_count x_TooMany, ⟨a6, i6, k6⟩, funk_key F6 (fun _ _ _ _ _ _ _ _ => rfl), rfl⟩⟩
    have h__law_told : FdX l.prog w K mg bs cl "_law_told" 5 m__law_told [] [] := ⟨⟨_, _, _, _, ok__law_told F7 T h_Schema_databases hk_Schema_databases y_TooMany xf_TooMany nox_TooMany, PySem.W.mg_of X G a7, k7, F7.binds (ps := ["_law_schema_here", "_law_bound"]) (fun _ _ _ _ _ _ us hl => match us, hl with | [_, _], _ => rfl), .nil, fun _ => .nil⟩⟩
    have h__law_alike : Fd l.prog w K mg bs cl "_law_alike" 1 m__law_alike [] [] := ⟨⟨_, _, _, _, ok__law_alike F8 T, PySem.W.mg_of X G a8, k8, F8.binds (ps := ["_law_found", "_law_due"]) (fun _ _ _ _ _ _ us hl => match us, hl with | [_, _], _ => rfl), .nil, fun _ => .nil⟩⟩
    have h__law_tuples : Fd l.prog w K mg bs cl "_law_tuples" 1 m__law_tuples [] [] := ⟨⟨_, _, _, _, ok__law_tuples F9 T, PySem.W.mg_of X G a9, k9, F9.binds (ps := ["_law_size", "_law_many"]) (fun _ _ _ _ _ _ us hl => match us, hl with | [_, _], _ => rfl), .nil, fun _ => .nil⟩⟩
    have h_Schema_columns : Mth l.prog w K mg bs cl "Schema" "columns" 1 m_Schema_columns [] [] := ⟨k_Schema, ⟨_, _, _, _, ok_Schema_columns F10 T k_Schema no_Schema_own_tables no_Schema_spots, ⟨a10, i10, k10⟩, F10.binds (ps := ["self", "name"]) (fun _ _ _ _ _ _ us hl => match us, hl with | [_, _], _ => rfl), .nil, fun _ => .nil⟩⟩
    have h_Schema_rows : Mth l.prog w K mg bs cl "Schema" "rows" 2 m_Schema_rows [] [] := ⟨k_Schema, ⟨_, _, _, _, ok_Schema_rows F11 T h_tuples_of h_Schema_columns k_Schema no_Schema_value_count, ⟨a11, i11, k11⟩, F11.binds (ps := ["self", "name"]) (fun _ _ _ _ _ _ us hl => match us, hl with | [_, _], _ => rfl), .nil, fun _ => .nil⟩⟩
    have h_is_integer : Fd l.prog w K mg bs cl "is_integer" 1 m_is_integer [] [] := ⟨⟨_, _, _, _, ok_is_integer F12 T, PySem.W.mg_of X G a12, k12, F12.binds (ps := ["thing"]) (fun _ _ _ _ _ _ us hl => match us, hl with | [_], _ => rfl), .nil, fun _ => .nil⟩⟩
    have h_is_between : Fd l.prog w K mg bs cl "is_between" 2 m_is_between [] [] := ⟨⟨_, _, _, _, ok_is_between F13 T h_is_integer, PySem.W.mg_of X G a13, k13, F13.binds (ps := ["thing", "least", "most"]) (fun _ _ _ _ _ _ us hl => match us, hl with | [_, _, _], _ => rfl), .nil, fun _ => .nil⟩⟩
    have h_is_name : Fd l.prog w K mg bs cl "is_name" 1 m_is_name [] [] := ⟨⟨_, _, _, _, ok_is_name F14 T c_LONGEST_NAME, PySem.W.mg_of X G a14, k14, F14.binds (ps := ["thing"]) (fun _ _ _ _ _ _ us hl => match us, hl with | [_], _ => rfl), .nil, fun _ => .nil⟩⟩
    have h_is_table : Fd l.prog w K mg bs cl "is_table" 3 m_is_table [] [] := ⟨⟨_, _, _, _, ok_is_table F15 T h_is_between h_is_name c_MOST_COLUMNS, PySem.W.mg_of X G a15, k15, F15.binds (ps := ["thing"]) (fun _ _ _ _ _ _ us hl => match us, hl with | [_], _ => rfl), .nil, fun _ => .nil⟩⟩
    have h_are_listed : Fd l.prog w K mg bs cl "are_listed" 1 m_are_listed [] [] := ⟨⟨_, _, _, _, ok_are_listed F16 T, PySem.W.mg_of X G a16, k16, F16.binds (ps := ["thing", "most"]) (fun _ _ _ _ _ _ us hl => match us, hl with | [_, _], _ => rfl), .nil, fun _ => .nil⟩⟩
    have n_Schema : Mkd l.prog w K mg bs cl "Schema" 4 m_Schema___init__ [] [] := ⟨⟨_, _, _, _, ⟨mk_Schema, a17, i17, kc_Schema⟩, PySem.W.mg_of X G aC_Schema, ok_Schema___init__ F17 T h_is_table h_are_listed h_is_between k_Schema no_Schema_spots no_Schema_own_tables no_Schema_value_count c_MOST_TABLES c_MOST_SIZE c_LEAST_SIZE, F17.binds (ps := ["self", "size", "tables"]) (fun _ _ _ _ _ _ us hl => match us, hl with | [_, _, _], _ => rfl), .nil, fun _ => .nil⟩⟩
    have h__law_schema : Fd l.prog w K mg bs cl "_law_schema" 6 m__law_schema [] [] := ⟨⟨_, _, _, _, ok__law_schema F18 T n_Schema, PySem.W.mg_of X G a18, k18, F18.binds (ps := ["_law_world_here"]) (fun _ _ _ _ _ _ us hl => match us, hl with | [_], _ => rfl), .nil, fun _ => .nil⟩⟩
    have h__law_contents : Fd l.prog w K mg bs cl "_law_contents" 2 m__law_contents [] [] := ⟨⟨_, _, _, _, ok__law_contents F19 T h__law_tuples, PySem.W.mg_of X G a19, k19, F19.binds (ps := ["_law_world_here", "_law_table"]) (fun _ _ _ _ _ _ us hl => match us, hl with | [_, _], _ => rfl), .nil, fun _ => .nil⟩⟩
    have h__law_databases : Fd l.prog w K mg bs cl "_law_databases" 3 m__law_databases [] [] := ⟨⟨_, _, _, _, ok__law_databases F20 T h__law_contents, PySem.W.mg_of X G a20, k20, F20.binds (ps := ["_law_world_here"]) (fun _ _ _ _ _ _ us hl => match us, hl with | [_], _ => rfl), .nil, fun _ => .nil⟩⟩
    have h__law_one : Fd l.prog w K mg bs cl "_law_one" 2 m__law_one [] [] := ⟨⟨_, _, _, _, ok__law_one F21 T h__law_take, PySem.W.mg_of X G a21, k21, F21.binds (ps := ["_law_bag_here", "_law_things"]) (fun _ _ _ _ _ _ us hl => match us, hl with | [_, _], _ => rfl), .nil, fun _ => .nil⟩⟩
    have h__law_world : Fd l.prog w K mg bs cl "_law_world" 3 m__law_world [] [] := ⟨⟨_, _, _, _, ok__law_world F22 T h__law_take h__law_one, PySem.W.mg_of X G a22, k22, F22.binds (ps := ["_law_bag_here", "_law_shapes"]) (fun _ _ _ _ _ _ us hl => match us, hl with | [_, _], _ => rfl), .nil, fun _ => .nil⟩⟩
    have h__law_bag : Fd l.prog w K mg bs cl "_law_bag" 1 m__law_bag [] [] := ⟨⟨_, _, _, _, ok__law_bag F23 T, PySem.W.mg_of X G a23, k23, F23.binds (ps := ["_law_script"]) (fun _ _ _ _ _ _ us hl => match us, hl with | [_], _ => rfl), .nil, fun _ => .nil⟩⟩
    exact FnG.imp (ok_law (cl := cl) F24 T h__law_take h__law_told h__law_alike h__law_tuples h_Schema_rows h__law_schema h__law_databases h__law_world h__law_bag) fun vs H Q E h => h _
end K16
namespace Fr
open PySem L2
/-! ### reckoning with mirrors -/
theorem eqD_int (a b : Int) : eqD (.int a) (.int b) = some (.val (.bool (decide (a = b)))) := by
  show some (Sl.val (.bool (a == b))) = _
  rw [show (a == b) = decide (a = b) by rw [Bool.eq_iff_iff]; simp]
theorem neD_int (a b : Int) : neD (.int a) (.int b) = some (.val (.bool (!decide (a = b)))) := by
  show some (Sl.val (.bool (!(a == b)))) = _
  rw [show (a == b) = decide (a = b) by rw [Bool.eq_iff_iff]; simp]
theorem eqD_str (a b : Str) : eqD (.str a) (.str b) = some (.val (.bool (decide (a = b)))) := rfl
theorem neD_str (a b : Str) : neD (.str a) (.str b) = some (.val (.bool (!decide (a = b)))) := rfl
theorem ixD_list (xs : List D) (i : Int) : ixD (.list xs) (.int i) = (atI xs i).map Sl.val := by
  show Option.or ((atI xs i).map Sl.val) (Option.or none none) = _
  cases (atI xs i).map Sl.val <;> rfl
theorem ixD_tuple (xs : List D) (i : Int) : ixD (.tuple xs) (.int i) = (atI xs i).map Sl.val := by
  show Option.or none (Option.or ((atI xs i).map Sl.val) none) = _
  cases (atI xs i).map Sl.val <;> rfl
theorem ixA_list (xs : List D) (i : Int) : ixA (.list xs) (.int i) = (atI xs i).map Sl.val := by
  show Option.or (ixD _ _) (ixK _ _) = _
  rw [ixD_list]
  cases (atI xs i).map Sl.val <;> rfl
theorem ixA_tuple (xs : List D) (i : Int) : ixA (.tuple xs) (.int i) = (atI xs i).map Sl.val := by
  show Option.or (ixD _ _) (ixK _ _) = _
  rw [ixD_tuple]
  cases (atI xs i).map Sl.val <;> rfl
theorem addD_int (a b : Int) : addD (.int a) (.int b) = some (.val (.int (a + b))) := rfl
theorem subD_int (a b : Int) : subD (.int a) (.int b) = some (.val (.int (a - b))) := rfl
theorem addD_list (a b : List D) (h : a.length + b.length ≤ sizeLine) : addD (.list a) (.list b) = some (.own (.list (a ++ b))) := by
  show Option.or none (Option.or none (Option.or (if a.length + b.length ≤ sizeLine then some (Sl.own (.list (a ++ b))) else none) none)) = _
  rw [if_pos h]; rfl
theorem mulA_int (a b : Int) (h : CMulW a b) : mulA (.int a) (.int b) = some (.val (.int (a * b))) := by
  show Option.or (Option.or (if CMulW a b then some (Sl.val (.int (a * b))) else none) none) (Option.or none none) = _
  rw [if_pos h]; rfl
theorem powD_int (a b : Int) (h : CPow a b) : powD (.int a) (.int b) = some (.val (.int (a ^ b.toNat))) := by
  simp only [powD, if_pos h]
theorem modD_int (a b : Int) (h : 0 < b) : modD (.int a) (.int b) = some (.val (.int (a % b))) := by
  simp only [modD, if_pos h]
theorem divD_int (a b : Int) (h : CDivW a b) : divD (.int a) (.int b) = some (.val (.int (a / b))) := by
  simp only [divD, if_pos h]
theorem log2_small {i : Int} {n : Nat} (h : i.natAbs < 2 ^ n) (hn : 0 < n) : i.natAbs.log2 < n := by
  by_cases z : i.natAbs = 0
  · rw [z, Nat.log2_zero]; exact hn
  · exact (Nat.log2_lt z).mpr h
theorem cmul_small {a b : Int} (ha : -(2 ^ 400) < a ∧ a < 2 ^ 400) (hb : -(2 ^ 400) < b ∧ b < 2 ^ 400) : CMulW a b := by
  have h1 := log2_small (i := a) (n := 400) (by omega) (by omega)
  have h2 := log2_small (i := b) (n := 400) (by omega) (by omega)
  unfold CMulW; omega
theorem cdiv_small {a b : Int} (hb : 0 < b ∧ b < 2 ^ 400) : CDivW a b :=
  ⟨hb.1, by have h2 := log2_small (i := b) (n := 400) (by omega) (by omega); omega⟩
theorem atI_nat {α : Type} {xs : List α} {i : Int} (h0 : 0 ≤ i) (h1 : i < xs.length) : ∃ x, atI xs i = some x ∧ x ∈ xs := by
  refine ⟨xs[i.toNat]'(by omega), ?_, List.getElem_mem _⟩
  unfold atI ixN
  rw [if_pos h0, if_pos h1]
  show xs[i.toNat]? = _
  exact List.getElem?_eq_getElem (by omega)
theorem size_big : 1000000 ≤ sizeLine := by rw [sizeLine_eq]; decide
/-! ### what a mirror gives -/
class Tg {γ : Type} (f : γ) : Type where
instance instTg {γ : Type} (f : γ) : Tg f := ⟨⟩
inductive W {α : Type} (o : Out α) (Q : α → Prop) [Tg Q] : Prop
  | it (h : ∃ x, o = .ok x ∧ Q x) : W o Q
  | no (h : False) : W o Q
theorem W.idt {α : Type} {o : Out α} {Q : α → Prop} (h : W o Q) : W o Q := h
theorem W.ex {α : Type} {o : Out α} {Q : α → Prop} (h : W o Q) : ∃ x, o = .ok x ∧ Q x := by
  cases h with
  | it h => exact h
  | no h => exact h.elim
theorem W.ok {α : Type} {a : α} {Q : α → Prop} (h : Q a) : W (.ok a) Q := .it ⟨a, rfl, h⟩
theorem W.mono {α : Type} {o : Out α} {Q Q' : α → Prop} (h : W o Q) (k : ∀ x, Q x → Q' x) : W o Q' := by
  obtain ⟨x, e, q⟩ := h.ex
  exact .it ⟨x, e, k x q⟩
theorem W.of {α : Type} {o : Out α} {Q : α → Prop} {x : α} (e : o = .ok x) (h : Q x) : W o Q := .it ⟨x, e, h⟩
theorem w_bind {α β : Type} {o : Out α} {k : α → Out β} {Q : β → Prop} (h : W o fun x => W (k x) Q) : W (o.bind k) Q := by
  obtain ⟨x, e, q⟩ := h.ex
  subst e
  exact q
theorem w_bindO {α β : Type} {o : Out α} {k : α → β} {Q : β → Prop} (h : W o fun x => Q (k x)) : W (o.bind fun x => .ok (k x)) Q := w_bind (h.mono fun _ h => .ok h)
theorem w_fz {o : Out (Rv × EV)} {Q : Rv × EV → Prop} (h : W o fun x => Q (fz x.1, x.2)) : W (fzO o) Q := by
  obtain ⟨x, e, q⟩ := h.ex
  subst e
  exact .ok q
section
variable {ρ : EV} {a b c : EV → Out (Rv × EV)} {ta tb : EV → Out (Bool × EV)} {Q : Rv × EV → Prop} {Qb : Bool × EV → Prop} {Qs : Fl × EV → Prop} {Qa : List Rv × EV → Prop} {Qi : List D × EV → Prop} {sa sb : EV → Out (Fl × EV)} {as : EV → Out (List Rv × EV)} {np i : Nat}
theorem w_var {d : D} (h : ρ[i]? = some (some (.val d))) (q : Q (.val d, ρ)) : W (mVar i ρ) Q := by unfold mVar; rw [h]; first | exact W.ok (q) | exact q
theorem w_varO {d : D} (h : ρ[i]? = some (some (.own d))) (q : Q (.ref i, ρ)) : W (mVar i ρ) Q := by unfold mVar; rw [h]; first | exact W.ok (q) | exact q
theorem w_varE (h : ∃ d, ρ[i]? = some (some (.val d)) ∧ Q (.val d, ρ)) : W (mVar i ρ) Q := w_var h.choose_spec.1 h.choose_spec.2
theorem w_varF (h : (∃ d, ρ[i]? = some (some (.own d))) ∧ Q (.ref i, ρ)) : W (mVar i ρ) Q := w_varO h.1.choose_spec h.2
theorem w_c {d : D} (q : Q (.val d, ρ)) : W (mC d ρ) Q := .ok q
theorem w_m2 {f : D → D → Option Sl} (h : W (a ρ) fun x => W (b x.2) fun y => ∃ d e s, rdv y.2 (fz x.1) = some d ∧ rdv y.2 (fz y.1) = some e ∧ f d e = some s ∧ Q (s.rv, y.2)) : W (m2 f a b ρ) Q := by
  unfold m2
  refine w_bind (w_fz (h.mono fun x h => w_bind (w_fz (h.mono fun y h => ?_))))
  obtain ⟨d, e, s, h1, h2, h3, h4⟩ := h
  dsimp only
  rw [h1, h2]; dsimp only; rw [h3]; first | exact W.ok (h4) | exact h4
theorem w_m1 {f : D → Option Sl} (h : W (a ρ) fun x => ∃ d s, rdv x.2 (fz x.1) = some d ∧ f d = some s ∧ Q (s.rv, x.2)) : W (m1 f a ρ) Q := by
  unfold m1
  refine w_bind (w_fz (h.mono fun x h => ?_))
  obtain ⟨d, s, h1, h3, h4⟩ := h
  dsimp only
  rw [h1]; dsimp only; rw [h3]; first | exact W.ok (h4) | exact h4
theorem w_mB (h : W (a ρ) fun x => ∃ k, rdv x.2 (fz x.1) = some (.bool k) ∧ Qb (k, x.2)) : W (mB a ρ) Qb := by
  unfold mB
  refine w_bind (w_fz (h.mono fun x h => ?_))
  obtain ⟨k, h1, h4⟩ := h
  dsimp only
  rw [h1]; first | exact W.ok (h4) | exact h4
theorem w_mCh {f g : D → D → Option Sl} (h : W (a ρ) fun x => W (b x.2) fun y => ∃ d e s, rdv y.2 (fz x.1) = some d ∧ rdv y.2 (fz y.1) = some e ∧ f d e = some (.val (.bool s)) ∧ (s = true → W (c y.2) fun z => ∃ e2 w s2, rdv z.2 (fz y.1) = some e2 ∧ rdv z.2 (fz z.1) = some w ∧ g e2 w = some s2 ∧ Q (s2.rv, z.2)) ∧ (s = false → Q (.val (.bool false), y.2))) : W (mCh f g a b c ρ) Q := by
  unfold mCh
  refine w_bind (w_fz (h.mono fun x h => w_bind (w_fz (h.mono fun y h => ?_))))
  obtain ⟨d, e, s, h1, h2, h3, h4, h5⟩ := h
  dsimp only
  rw [h1, h2]; dsimp only; rw [h3]
  cases s with
  | false => first | exact W.ok (h5 rfl) | exact h5 rfl
  | true =>
    refine w_bind (w_fz ((h4 rfl).mono fun z h => ?_))
    obtain ⟨e2, w, s2, k1, k2, k3, k4⟩ := h
    dsimp only
    rw [k1, k2]; dsimp only; rw [k3]; first | exact W.ok (k4) | exact k4
theorem w_and (h : W (ta ρ) fun x => (x.1 = true → W (tb x.2) Qb) ∧ (x.1 = false → Qb (false, x.2))) : W (mAnd ta tb ρ) Qb := by
  unfold mAnd
  refine w_bind (h.mono fun x h => ?_)
  by_cases q : x.1 = true
  · rw [if_pos q]; first | exact W.ok (h.1 q) | exact h.1 q
  · rw [if_neg q]; first | exact W.ok (h.2 (by simpa using q)) | exact h.2 (by simpa using q)
theorem w_or (h : W (ta ρ) fun x => (x.1 = true → Qb (true, x.2)) ∧ (x.1 = false → W (tb x.2) Qb)) : W (mOr ta tb ρ) Qb := by
  unfold mOr
  refine w_bind (h.mono fun x h => ?_)
  by_cases q : x.1 = true
  · rw [if_pos q]; first | exact W.ok (h.1 q) | exact h.1 q
  · rw [if_neg q]; first | exact W.ok (h.2 (by simpa using q)) | exact h.2 (by simpa using q)
theorem w_not (h : W (ta ρ) fun x => Qb (!x.1, x.2)) : W (mNot ta ρ) Qb := w_bindO h
theorem w_andV (h : W (mB a ρ) fun x => (x.1 = true → W (b x.2) Q) ∧ (x.1 = false → Q (.val (.bool false), x.2))) : W (mAndV a b ρ) Q := by
  unfold mAndV
  refine w_bind (h.mono fun x h => ?_)
  by_cases q : x.1 = true
  · rw [if_pos q]; first | exact W.ok (h.1 q) | exact h.1 q
  · rw [if_neg q]; first | exact W.ok (h.2 (by simpa using q)) | exact h.2 (by simpa using q)
theorem w_orV (h : W (mB a ρ) fun x => (x.1 = true → Q (.val (.bool true), x.2)) ∧ (x.1 = false → W (b x.2) Q)) : W (mOrV a b ρ) Q := by
  unfold mOrV
  refine w_bind (h.mono fun x h => ?_)
  by_cases q : x.1 = true
  · rw [if_pos q]; first | exact W.ok (h.1 q) | exact h.1 q
  · rw [if_neg q]; first | exact W.ok (h.2 (by simpa using q)) | exact h.2 (by simpa using q)
theorem w_notV (h : W (mB a ρ) fun x => Q (.val (.bool !x.1), x.2)) : W (mNotV a ρ) Q := w_bindO h
theorem w_ite (h : W (ta ρ) fun x => (x.1 = true → W (a x.2) Q) ∧ (x.1 = false → W (b x.2) Q)) : W (mIte ta a b ρ) Q := by
  unfold mIte
  refine w_bind (h.mono fun x h => ?_)
  by_cases q : x.1 = true
  · rw [if_pos q]; first | exact W.ok (h.1 q) | exact h.1 q
  · rw [if_neg q]; first | exact W.ok (h.2 (by simpa using q)) | exact h.2 (by simpa using q)
theorem w_anil (h : Qa ([], ρ)) : W (aNil ρ) Qa := .ok h
theorem w_acons (h : W (a ρ) fun x => W (as x.2) fun y => Qa (fz x.1 :: y.1, y.2)) : W (aCons a as ρ) Qa :=
  w_bind (w_fz (h.mono fun x h => w_bindO h))
theorem w_n {f : List D → Option Sl} (h : W (as ρ) fun x => ∃ ds s, rdvs x.2 x.1 = some ds ∧ f ds = some s ∧ Q (s.rv, x.2)) : W (mN f as ρ) Q := by
  unfold mN
  refine w_bind (h.mono fun x h => ?_)
  obtain ⟨ds, s, h1, h2, h3⟩ := h
  rw [h1]; dsimp only; rw [h2]; first | exact W.ok (h3) | exact h3
theorem w_lst (h : W (as ρ) fun x => ∃ ds, mTup.vals x.1 = some ds ∧ ds.length ≤ 1000000 ∧ Q (.own (.list ds), x.2)) : W (mLst as ρ) Q := by
  unfold mLst
  refine w_bind (h.mono fun x h => ?_)
  obtain ⟨ds, h1, h2, h3⟩ := h
  rw [h1]; dsimp only; rw [if_pos (Nat.le_trans h2 size_big)]; first | exact W.ok (h3) | exact h3
theorem w_tup (h : W (as ρ) fun x => ∃ ds, mTup.vals x.1 = some ds ∧ ds.length ≤ 1000000 ∧ Q (.val (.tuple ds), x.2)) : W (mTup as ρ) Q := by
  unfold mTup
  refine w_bind (h.mono fun x h => ?_)
  obtain ⟨ds, h1, h2, h3⟩ := h
  rw [h1]; dsimp only; rw [if_pos (Nat.le_trans h2 size_big)]; first | exact W.ok (h3) | exact h3
theorem w_run {nl : Nat} {mb : EV → Out (Fl × EV)} {vs : EV} (hl : vs.length = np) (h : W (mb (vs ++ List.replicate (nl - np) none)) fun x => match x.1 with
    | .ret r => Q (r, outE vs x.2)
    | .next => Q (.val .none, outE vs x.2)
    | _ => False) : W (runF np nl mb vs) Q := by
  unfold runF
  rw [if_pos hl]
  obtain ⟨⟨f, ρ'⟩, e, h3⟩ := h.ex
  rw [e]
  cases f with
  | ret r => exact .ok h3
  | next => exact .ok h3
  | brk => exact False.elim h3
  | cont => exact False.elim h3
theorem w_next (h : Qs (.next, ρ)) : W (sNext ρ) Qs := .ok h
theorem w_brk (h : Qs (.brk, ρ)) : W (sBrk ρ) Qs := .ok h
theorem w_cont (h : Qs (.cont, ρ)) : W (sCont ρ) Qs := .ok h
theorem w_seq (h : W (sa ρ) fun x => match x.1 with
    | .next => W (sb x.2) Qs
    | f => Qs (f, x.2)) : W (sSeq sa sb ρ) Qs := by
  unfold sSeq
  refine w_bind (h.mono fun x h => ?_)
  obtain ⟨f, ρ'⟩ := x
  cases f <;> first | exact W.ok (h) | exact h
theorem w_if (h : W (ta ρ) fun x => (x.1 = true → W (sa x.2) Qs) ∧ (x.1 = false → W (sb x.2) Qs)) : W (sIf ta sa sb ρ) Qs := by
  unfold sIf
  refine w_bind (h.mono fun x h => ?_)
  by_cases q : x.1 = true
  · rw [if_pos q]; first | exact W.ok (h.1 q) | exact h.1 q
  · rw [if_neg q]; first | exact W.ok (h.2 (by simpa using q)) | exact h.2 (by simpa using q)
theorem w_expr (h : W (a ρ) fun x => Qs (.next, x.2)) : W (sExpr a ρ) Qs := w_bindO h
theorem w_ret (h : W (a ρ) fun x => match x.1 with
    | .ref i => ¬ i < np ∧ ∃ d, x.2[i]? = some (some (.own d)) ∧ Qs (.ret (.own d), x.2)
    | r => Qs (.ret r, x.2)) : W (sRet np a ρ) Qs := by
  unfold sRet
  refine w_bind (h.mono fun x h => ?_)
  obtain ⟨r, ρ'⟩ := x
  cases r with
  | val d => first | exact W.ok (h) | exact h
  | own d => first | exact W.ok (h) | exact h
  | ref i =>
    obtain ⟨h1, d, h2, h3⟩ := h
    dsimp only
    rw [if_neg h1, h2]; first | exact W.ok (h3) | exact h3
theorem w_setV (h : W (a ρ) fun x => ∃ d, fz x.1 = .val d ∧ okSet np i x.2 = true ∧ Qs (.next, x.2.set i (some (.val d)))) : W (sSetV np i a ρ) Qs := by
  unfold sSetV
  refine w_bind (w_fz (h.mono fun x h => ?_))
  obtain ⟨d, h1, h2, h3⟩ := h
  dsimp only
  rw [h1]; dsimp only; rw [if_pos h2]; first | exact W.ok (h3) | exact h3
theorem w_setO (h : W (a ρ) fun x => ∃ d, x.1 = .own d ∧ okSet np i x.2 = true ∧ Qs (.next, x.2.set i (some (.own d)))) : W (sSetO np i a ρ) Qs := by
  unfold sSetO
  refine w_bind (h.mono fun x h => ?_)
  obtain ⟨d, h1, h2, h3⟩ := h
  rw [h1]; dsimp only; rw [if_pos h2]; first | exact W.ok (h3) | exact h3
theorem w_par2 {j : Nat} {oi oj : Bool} (h : W (fzB oi (a ρ)) fun x => W (fzB oj (b x.2)) fun y => ∃ ρ1 ρ2, setR np i x.1 y.2 = some ρ1 ∧ setR np j y.1 ρ1 = some ρ2 ∧ Qs (.next, ρ2)) : W (sPar2 np i oi j oj a b ρ) Qs := by
  unfold sPar2
  refine w_bind (h.mono fun x h => w_bind (h.mono fun y h => ?_))
  obtain ⟨r1, r2, h1, h2, h3⟩ := h
  rw [h1, Option.bind_some, h2]; first | exact W.ok (h3) | exact h3
theorem w_fzF {o : Out (Rv × EV)} (h : W o fun x => Q (fz x.1, x.2)) : W (fzB false o) Q := by
  unfold fzB; rw [if_neg (by decide)]; first | exact W.ok (w_fz h) | exact w_fz h
theorem w_fzT {o : Out (Rv × EV)} (h : W o Q) : W (fzB true o) Q := by
  unfold fzB; rw [if_pos rfl]; first | exact W.ok (h) | exact h
theorem w_sub {k v : EV → Out (Rv × EV)} (h : W (v ρ) fun y => ∃ dv, fz y.1 = .val dv ∧ (∃ d0, ownAt y.2 i = some d0) ∧ W (k y.2) fun z => ∃ dk d d', fz z.1 = .val dk ∧ ownAt z.2 i = some d ∧ setL d dk dv = some d' ∧ Qs (.next, z.2.set i (some (.own d')))) : W (sSub i k v ρ) Qs := by
  unfold sSub
  refine w_bind (w_fz (h.mono fun y h => ?_))
  obtain ⟨dv, h1, ⟨d0, h2⟩, h3⟩ := h
  dsimp only
  rw [h1]; dsimp only; rw [h2]
  refine w_bind (w_fz (h3.mono fun z h => ?_))
  obtain ⟨dk, d, d', k1, k2, k3, k4⟩ := h
  dsimp only
  rw [k1]; dsimp only; rw [k2]; dsimp only; rw [k3]; first | exact W.ok (k4) | exact k4
theorem w_subA {k v : EV → Out (Rv × EV)} (h : W (v ρ) fun y => ∃ dv, fz y.1 = .val dv ∧ (∃ d0, ownAt y.2 i = some d0) ∧ W (k y.2) fun z => ∃ dk d d', fz z.1 = .val dk ∧ ownAt z.2 i = some d ∧ setA d dk dv = some d' ∧ Qs (.next, z.2.set i (some (.own d')))) : W (sSubA i k v ρ) Qs := by
  unfold sSubA
  refine w_bind (w_fz (h.mono fun y h => ?_))
  obtain ⟨dv, h1, ⟨d0, h2⟩, h3⟩ := h
  dsimp only
  rw [h1]; dsimp only; rw [h2]
  refine w_bind (w_fz (h3.mono fun z h => ?_))
  obtain ⟨dk, d, d', k1, k2, k3, k4⟩ := h
  dsimp only
  rw [k1]; dsimp only; rw [k2]; dsimp only; rw [k3]; first | exact W.ok (k4) | exact k4
theorem w_subAdd {k v : EV → Out (Rv × EV)} (h0 : ∃ d0, ownAt ρ i = some d0) (h : W (k ρ) fun z => ∃ j xs n, fz z.1 = .val (.int j) ∧ ownAt z.2 i = some (.list xs) ∧ atI xs j = some (.int n) ∧ W (v z.2) fun y => ∃ c d d', fz y.1 = .val (.int c) ∧ ownAt y.2 i = some d ∧ setL d (.int j) (.int (n + c)) = some d' ∧ Qs (.next, y.2.set i (some (.own d')))) : W (sSubAdd i k v ρ) Qs := by
  obtain ⟨d0, h0⟩ := h0
  unfold sSubAdd
  rw [h0]
  refine w_bind (w_fz (h.mono fun z h => ?_))
  obtain ⟨j, xs, n, h1, h2, h3, h4⟩ := h
  dsimp only
  rw [h1]; dsimp only; rw [h2]; dsimp only; rw [h3]
  refine w_bind (w_fz (h4.mono fun y h => ?_))
  obtain ⟨c, d, d', k1, k2, k3, k4⟩ := h
  dsimp only
  rw [k1]; dsimp only; rw [k2]; dsimp only; rw [k3]; first | exact W.ok (k4) | exact k4
theorem w_iR1 (h : W (as ρ) fun x => ∃ n, x.1 = [.val (.int n)] ∧ -(2 ^ 62) ≤ n ∧ n < 2 ^ 62 ∧ Qi (rngD 0 n.toNat, x.2)) : W (iR1 as ρ) Qi := by
  unfold iR1
  refine w_bind (h.mono fun x h => ?_)
  obtain ⟨n, h1, h2, h3, h4⟩ := h
  rw [h1]; dsimp only; rw [if_pos ⟨h2, h3⟩]; first | exact W.ok (h4) | exact h4
theorem w_iQ (h : W (a ρ) fun x => (∃ ds, (fz x.1 = .val (.list ds) ∨ fz x.1 = .val (.tuple ds)) ∧ Qi (ds, x.2)) ∨ ∃ z, fz x.1 = .val (.str z) ∧ Qi (z.cps.toList.map fun c => .str ⟨#[c]⟩, x.2)) : W (iQ a ρ) Qi := by
  unfold iQ
  refine w_bind (w_fz (h.mono fun x h => ?_))
  rcases h with ⟨ds, h | h, q⟩ | ⟨z, h, q⟩ <;> (dsimp only; rw [h]; exact .ok q)
/-- a for by an invariant -/
theorem w_loop {g : Tgm} {body : EV → Out (Fl × EV)} (I : Nat → EV → Prop) : ∀ (ds : List D) (k : Nat) (ρ : EV), I k ρ →
    (∀ (j : Nat) (d : D) (ρ' : EV), ds[j]? = some d → I (k + j) ρ' → ∃ ρ1, g d ρ' = some ρ1 ∧ W (body ρ1) fun y => match y.1 with
      | .next => I (k + j + 1) y.2
      | .cont => I (k + j + 1) y.2
      | .brk => Qs (.next, y.2)
      | .ret r => Qs (.ret r, y.2)) →
    (∀ ρ', I (k + ds.length) ρ' → Qs (.next, ρ')) → W (loopG g body ds ρ) Qs
  | [], k, ρ, h0, _, h2 => .ok (h2 ρ h0)
  | d :: ds, k, ρ, h0, h1, h2 => by
    obtain ⟨ρ1, e, w⟩ := h1 0 d ρ rfl h0
    show W (match g d ρ with
      | none => .bad
      | some ρ1 => (body ρ1).bind fun x => match x.1 with
        | .next => loopG g body ds x.2
        | .cont => loopG g body ds x.2
        | .brk => .ok (.next, x.2)
        | .ret r => .ok (.ret r, x.2)) Qs
    rw [e]
    refine w_bind (w.mono fun x h => ?_)
    have go : I (k + 0 + 1) x.2 → W (loopG g body ds x.2) Qs := fun h => by
      refine w_loop I ds (k + 1) x.2 h (fun j d' ρ' q z => ?_) fun ρ' z => ?_
      · have := h1 (j + 1) d' ρ' q (by rw [show k + (j + 1) = k + 1 + j by omega]; exact z)
        rw [show k + (j + 1) = k + 1 + j by omega] at this
        first | exact W.ok (this) | exact this
      · refine h2 ρ' ?_
        rw [List.length_cons, show k + (ds.length + 1) = k + 1 + ds.length by omega]; first | exact W.ok (z) | exact z
    obtain ⟨f, ρ2⟩ := x
    cases f with
    | next => first | exact W.ok (go h) | exact go h
    | cont => first | exact W.ok (go h) | exact go h
    | brk => first | exact W.ok (h) | exact h
    | ret r => first | exact W.ok (h) | exact h
/-- a comprehension by an invariant -/
theorem w_lcGo {g : Tgm} {vs : List Nat} {mt : EV → Out (Bool × EV)} {me : EV → Out (Rv × EV)} (I : Nat → List D → EV → Prop) : ∀ (ds : List D) (k : Nat) (acc : List D) (ρ : EV), I k acc ρ → acc.length + ds.length ≤ 1000000 →
    (∀ (j : Nat) (d : D) (acc' : List D) (ρ' : EV), ds[j]? = some d → I (k + j) acc' ρ' → ∃ ρ1, g d (wipeE ρ' vs) = some ρ1 ∧ W (mt ρ1) fun y => (y.1 = true → W (me y.2) fun z => ∃ w, fz z.1 = .val w ∧ I (k + j + 1) (acc' ++ [w]) (back ρ' vs z.2)) ∧ (y.1 = false → I (k + j + 1) acc' (back ρ' vs y.2))) →
    (∀ acc' ρ', I (k + ds.length) acc' ρ' → Q (.own (.list acc'), ρ')) → W (lcGo g vs mt me ds acc ρ) Q
  | [], k, acc, ρ, h0, _, _, h2 => .ok (h2 acc ρ h0)
  | d :: ds, k, acc, ρ, h0, hl, h1, h2 => by
    obtain ⟨ρ1, e, w⟩ := h1 0 d acc ρ rfl h0
    have go : ∀ acc2 ρ2, acc2.length ≤ acc.length + 1 → I (k + 0 + 1) acc2 ρ2 → W (lcGo g vs mt me ds acc2 ρ2) Q := fun acc2 ρ2 hh h => by
      refine w_lcGo I ds (k + 1) acc2 ρ2 h (by simp at hl; omega) (fun j d' acc' ρ' q z => ?_) fun acc' ρ' z => ?_
      · have := h1 (j + 1) d' acc' ρ' q (by rw [show k + (j + 1) = k + 1 + j by omega]; exact z)
        rw [show k + (j + 1) = k + 1 + j by omega] at this
        first | exact W.ok (this) | exact this
      · refine h2 acc' ρ' ?_
        rw [List.length_cons, show k + (ds.length + 1) = k + 1 + ds.length by omega]; first | exact W.ok (z) | exact z
    obtain ⟨⟨t, ρ2⟩, e2, w1, w2⟩ := w.ex
    unfold lcGo
    rw [e]; dsimp only; rw [e2]
    cases t with
    | false => first | exact W.ok (go acc _ (by omega) (w2 rfl)) | exact go acc _ (by omega) (w2 rfl)
    | true =>
      obtain ⟨⟨r, ρ3⟩, e3, w3, hw, hi⟩ := (w1 rfl).ex
      dsimp only at hw hi e3 ⊢
      rw [e3]; simp only [fzO]; rw [hw]; dsimp only
      rw [if_pos (by have := size_big; simp at hl; omega)]
      first | exact W.ok (go _ _ (by simp) hi) | exact go _ _ (by simp) hi
theorem w_m {T : String} {f : D → List D → Option Sl} (h : W (a ρ) fun x => ∃ d0, rdv x.2 (fz x.1) = some d0 ∧ tyB T d0 = true ∧ W (as x.2) fun y => ∃ d ds s, rdv y.2 (fz x.1) = some d ∧ rdvs y.2 y.1 = some ds ∧ f d ds = some s ∧ Q (s.rv, y.2)) : W (mM T f a as ρ) Q := by
  unfold mM
  refine w_bind (w_fz (h.mono fun x h => ?_))
  obtain ⟨d0, h1, h2, h3⟩ := h
  dsimp only
  rw [h1]; dsimp only; rw [if_pos h2]
  refine w_bind (h3.mono fun y h => ?_)
  obtain ⟨d, ds, s, k1, k2, k3, k4⟩ := h
  rw [k1, k2]; dsimp only; rw [k3]; first | exact W.ok (k4) | exact k4
theorem w_isi {T : Ty} (h : W (a ρ) fun x => ∃ d, rdv x.2 (fz x.1) = some d ∧ isObj d = false ∧ Q (.val (.bool (isiB T d)), x.2)) : W (mIsi T a ρ) Q := by
  unfold mIsi
  refine w_m1 (h.mono fun x h => ?_)
  obtain ⟨d, h1, h2, h3⟩ := h
  refine ⟨d, .val (.bool (isiB T d)), h1, ?_, h3⟩
  rw [if_neg (by rw [h2]; decide)]
theorem w_sl {lo hi : EV → Out (Option Int × EV)} (h : W (a ρ) fun x => W (lo x.2) fun l => W (hi l.2) fun h => ∃ d s, rdv h.2 (fz x.1) = some d ∧ slD d l.1 h.1 = some s ∧ Q (s.rv, h.2)) : W (mSl a lo hi ρ) Q := by
  unfold mSl
  refine w_bind (w_fz (h.mono fun x h => w_bind (h.mono fun l h => w_bind (h.mono fun y h => ?_))))
  obtain ⟨d, s, h1, h2, h3⟩ := h
  dsimp only
  rw [h1]; dsimp only; rw [h2]; first | exact W.ok (h3) | exact h3
theorem w_pNo {Qp : Option Int × EV → Prop} (h : Qp (none, ρ)) : W (pNo ρ) Qp := .ok h
theorem w_pI {Qp : Option Int × EV → Prop} (h : W (a ρ) fun x => ∃ i, fz x.1 = .val (.int i) ∧ Qp (some i, x.2)) : W (pI a ρ) Qp := by
  unfold pI
  refine w_bind (w_fz (h.mono fun x h => ?_))
  obtain ⟨i, h1, h2⟩ := h
  dsimp only
  rw [h1]; first | exact W.ok (h2) | exact h2
theorem w_disp {ms : List (Mx × Mx)} (h : W (dPairs ms ρ) fun x => ∃ kds, keysD x.1 = some kds ∧ kds.length ≤ 15 ∧ Q (.own (.dict (encK (mergeA [] kds))), x.2)) : W (mDisp ms ρ) Q := by
  unfold mDisp
  refine w_bind (h.mono fun x h => ?_)
  obtain ⟨kds, h1, h2, h3⟩ := h
  rw [h1]; dsimp only; rw [if_pos h2]; first | exact W.ok (h3) | exact h3
theorem w_dnil {Qp : List (D × D) × EV → Prop} (h : Qp ([], ρ)) : W (dPairs [] ρ) Qp := .ok h
theorem w_dcons {k v : Mx} {r : List (Mx × Mx)} {Qp : List (D × D) × EV → Prop} (h : W (k ρ) fun x => ∃ dk, fz x.1 = .val dk ∧ W (v x.2) fun y => ∃ dv, fz y.1 = .val dv ∧ W (dPairs r y.2) fun z => Qp ((dk, dv) :: z.1, z.2)) : W (dPairs ((k, v) :: r) ρ) Qp := by
  unfold dPairs
  refine w_bind (w_fz (h.mono fun x h => ?_))
  obtain ⟨dk, h1, h2⟩ := h
  dsimp only
  rw [h1]
  refine w_bind (w_fz (h2.mono fun y h => ?_))
  obtain ⟨dv, h1, h2⟩ := h
  dsimp only
  rw [h1]
  exact w_bindO h2
theorem w_sTup {g : Tgm} (h : W (a ρ) fun x => ∃ d ρ', fz x.1 = .val d ∧ g d x.2 = some ρ' ∧ Qs (.next, ρ')) : W (sTup g a ρ) Qs := by
  unfold sTup
  refine w_bind (w_fz (h.mono fun x h => ?_))
  obtain ⟨d, ρ', h1, h2, h3⟩ := h
  dsimp only
  rw [h1]; dsimp only; rw [h2]; first | exact W.ok (h3) | exact h3
theorem w_iR2 (h : W (as ρ) fun x => ∃ m n, x.1 = [.val (.int m), .val (.int n)] ∧ (-(2 ^ 62) ≤ m ∧ m < 2 ^ 62 ∧ -(2 ^ 62) ≤ n ∧ n < 2 ^ 62) ∧ Qi (rngD m (n - m).toNat, x.2)) : W (iR2 as ρ) Qi := by
  unfold iR2
  refine w_bind (h.mono fun x h => ?_)
  obtain ⟨m, n, h1, h2, h3⟩ := h
  rw [h1]; dsimp only; rw [if_pos h2]; first | exact W.ok (h3) | exact h3
theorem w_yes (h : Qb (true, ρ)) : W (mYes ρ) Qb := .ok h
end
/-! ### the bag of the laws' drawn numbers -/
def bagD (a b c : Int) (cs : List Int) : D := .list [.int a, .int b, .int c, .list (cs.map PyData.int)]
/-- a bag drawn from at most n times -/
def Bg (n : Nat) (d : D) : Prop := ∃ a b c cs, d = bagD a b c cs ∧ 0 ≤ a ∧ 0 ≤ b ∧ b < 2147483647 ∧ 0 ≤ c ∧ c ≤ n ∧ ∀ x ∈ cs, (0 : Int) ≤ x
theorem Bg.mono {n m : Nat} {d : D} (h : Bg n d) (q : n ≤ m) : Bg m d := by
  obtain ⟨a, b, c, cs, e, h1, h2, h3, h4, h5, h6⟩ := h
  exact ⟨a, b, c, cs, e, h1, h2, h3, h4, by omega, h6⟩
def b_take : EV → Out (Fl × EV) :=
  (sSeq (sIf (mB (m2 eqD (m2 ixA (mVar 0) (mC (.int 0))) (mC (.int 0)))) (sSeq (sSetV 2 2 (mC (.int 0)))
    (sSeq (sIf (mB (m2 ltD (m2 ixA (mVar 0) (mC (.int 2))) (mN lenD (aCons (m2 ixA (mVar 0) (mC (.int 3))) aNil)))) (sSetV 2 2 (m2 ixA (m2 ixA (mVar 0) (mC (.int 3))) (m2 ixA (mVar 0) (mC (.int 2))))) sNext)
    (sSeq (sSubAdd 0 (mC (.int 2)) (mC (.int 1)))
    (sSeq (sIf (mB (m2 geD (mVar 2) (mC (.int 1000000000000000000)))) (sSubA 0 (mC (.int 0)) (mVar 2)) sNext)
    (sSubA 0 (mC (.int 1)) (m2 modD (m2 addD (m2 addD (m2 mulA (m2 ixA (mVar 0) (mC (.int 1))) (mC (.int 48271))) (m2 modD (mVar 2) (mC (.int 2147483647)))) (m2 mulA (mC (.int 7919)) (m2 ixA (mVar 0) (mC (.int 2))))) (mC (.int 2147483647)))))))) sNext)
    (sSeq (sIf (mB (m2 gtD (m2 ixA (mVar 0) (mC (.int 0))) (mC (.int 0)))) (sSeq (sSetV 2 3 (m2 modD (m2 ixA (mVar 0) (mC (.int 0))) (mVar 1)))
    (sSeq (sSubA 0 (mC (.int 0)) (m2 divD (m2 ixA (mVar 0) (mC (.int 0))) (mVar 1)))
    (sRet 2 (mVar 3)))) sNext)
    (sSeq (sSetV 2 4 (m2 modD (m2 mulA (m2 addD (m2 ixA (mVar 0) (mC (.int 1))) (mC (.int 1))) (mC (.int 39373))) (mC (.int 1000000007))))
    (sSeq (sSetV 2 5 (m2 modD (m2 mulA (m2 modD (m2 mulA (mVar 4) (mVar 4)) (mC (.int 998244353))) (mC (.int 30011))) (mC (.int 998244353))))
    (sSeq (sIf (mB (m2 gtD (mVar 1) (mC (.int 1000000)))) (sRet 2 (m2 modD (m2 addD (m2 mulA (mVar 5) (mC (.int 1000000007))) (mVar 4)) (mVar 1))) sNext)
    (sRet 2 (m2 modD (m2 divD (mVar 5) (mC (.int 7))) (mVar 1))))))))
def m_take : Mf := runF 2 6 b_take
end Fr
namespace Fr
open PySem L2
/-! ### mirrors reckoned by rewriting: only the head of a chain is looked at -/
def bnd {α β : Type} (x : Out α) (f : α → Out β) [Tg f] : Out β := x.bind f
theorem bnd_ok {α β : Type} {a : α} {f : α → Out β} : bnd (.ok a) f = f a := rfl
theorem bnd_bad {α β : Type} {f : α → Out β} : bnd .bad f = .bad := rfl
theorem bnd_ex {α β : Type} {c : Str} {fs : List (D × D)} {ρ : EV} {f : α → Out β} : bnd (.ex c fs ρ) f = .ex c fs ρ := rfl
theorem bnd_bnd {α β γ : Type} {x : Out α} {f : α → Out β} {g : β → Out γ} : bnd (bnd x f) g = bnd x fun a => bnd (f a) g := by cases x <;> rfl
theorem bnd_ite {α β : Type} {c : Prop} [Decidable c] {a b : Out α} {f : α → Out β} : bnd (if c then a else b) f = if c then bnd a f else bnd b f := by split <;> rfl
theorem w_bnd {α β : Type} {o : Out α} {k : α → Out β} {Q : β → Prop} (h : W o fun x => W (k x) Q) : W (bnd o k) Q := w_bind h
theorem W.eq {α : Type} {o : Out α} {x : α} (h : W o fun y => y = x) : o = .ok x := by
  obtain ⟨y, e, rfl⟩ := h.ex
  exact e
section
variable {ρ ρ' : EV} {a b c o k v : EV → Out (Rv × EV)} {ta tb : EV → Out (Bool × EV)} {sa sb : EV → Out (Fl × EV)} {as : EV → Out (List Rv × EV)} {np nl i j : Nat} {d e : D} {r : Rv} {f g : D → D → Option Sl}
theorem e_fzO {x : Out (Rv × EV)} : fzO x = bnd x fun y => .ok (fz y.1, y.2) := by cases x <;> rfl
theorem e_fzv : fz (.val d) = .val d := rfl
theorem e_fzo : fz (.own d) = .val d := rfl
theorem e_fzr : fz (.ref i) = .ref i := rfl
theorem e_fzs {s : Sl} : fz s.rv = match s with | .val d => .val d | .own d => .val d := by cases s <;> rfl
theorem e_var0 {s : Option Sl} : mVar 0 (some (.val d) :: ρ) = .ok (.val d, some (.val d) :: ρ) := rfl
def atV (i : Nat) (ρ : EV) : Option Sl → Out (Rv × EV)
  | some (.val d) => .ok (.val d, ρ)
  | some (.own _) => .ok (.ref i, ρ)
  | none => .bad
def look : EV → Nat → Option Sl
  | [], _ => none
  | x :: _, 0 => x
  | _ :: r, i + 1 => look r i
theorem look_zero {x : Option Sl} : look (x :: ρ) 0 = x := rfl
theorem look_succ {x : Option Sl} : look (x :: ρ) (i + 1) = look ρ i := rfl
theorem look_eq : ∀ (ρ : EV) (i : Nat), look ρ i = (ρ[i]?).getD none
  | [], _ => rfl
  | _ :: _, 0 => rfl
  | _ :: r, i + 1 => by rw [look, look_eq r i]; rfl
theorem e_var : mVar i ρ = atV i ρ (look ρ i) := by
  rw [look_eq]; unfold mVar
  cases h : ρ[i]? with
  | none => rfl
  | some x => cases x with
    | none => rfl
    | some s => cases s <;> rfl
theorem atV_val : atV i ρ (some (.val d)) = .ok (.val d, ρ) := rfl
theorem atV_own : atV i ρ (some (.own d)) = .ok (.ref i, ρ) := rfl
theorem e_c : mC d ρ = .ok (.val d, ρ) := rfl
theorem e_giv {s : Sl} : giv ρ (some s) = .ok (s.rv, ρ) := rfl
theorem e_rvv : Sl.rv (.val d) = .val d := rfl
theorem e_rvo : Sl.rv (.own d) = .own d := rfl
/-- what a thing reads now -/
def rd1 {α : Type} (ρ : EV) (r : Rv) (k : D → Out α) : Out α := match rdv ρ r with
  | some d => k d
  | none => .bad
def own1 {α : Type} (s : Option Sl) (k : D → Out α) : Out α := match s with
  | some (.own d) => k d
  | _ => .bad
theorem own1_own {α : Type} {k : D → Out α} : own1 (some (.own d)) k = k d := rfl
theorem e_rd1v {α : Type} {k : D → Out α} : rd1 ρ (.val d) k = k d := rfl
theorem e_rd1r {α : Type} {k : D → Out α} : rd1 ρ (.ref i) k = own1 (look ρ i) k := by
  rw [look_eq]; unfold rd1 rdv; dsimp only
  cases h : ρ[i]? with
  | none => rfl
  | some x => cases x with
    | none => rfl
    | some s => cases s <;> rfl
theorem e_m2 : m2 f a b ρ = bnd (fzO (a ρ)) fun x => bnd (fzO (b x.2)) fun y => rd1 y.2 x.1 fun d => rd1 y.2 y.1 fun e => giv y.2 (f d e) := by
  unfold m2 bnd; cases fzO (a ρ) <;> try rfl
  rename_i x; dsimp only [Out.bind]; cases fzO (b x.2) <;> try rfl
  rename_i y; dsimp only [Out.bind]; unfold rd1; cases rdv y.2 x.1 <;> cases rdv y.2 y.1 <;> rfl
theorem e_m1 {f : D → Option Sl} : m1 f a ρ = bnd (fzO (a ρ)) fun x => rd1 x.2 x.1 fun d => giv x.2 (f d) := by
  unfold m1 bnd; cases fzO (a ρ) <;> try rfl
  rename_i x; dsimp only [Out.bind]; unfold rd1; cases rdv x.2 x.1 <;> rfl
def toB (ρ : EV) : D → Out (Bool × EV)
  | .bool k => .ok (k, ρ)
  | _ => .bad
theorem toB_bool {k : Bool} : toB ρ (.bool k) = .ok (k, ρ) := rfl
theorem e_mB : mB a ρ = bnd (fzO (a ρ)) fun x => rd1 x.2 x.1 fun d => toB x.2 d := by
  unfold mB bnd; cases fzO (a ρ) <;> try rfl
  rename_i x; dsimp only [Out.bind]; unfold rd1; cases rdv x.2 x.1 with
  | none => rfl
  | some d => cases d <;> rfl
theorem e_and : mAnd ta tb ρ = bnd (ta ρ) fun x => if x.1 = true then tb x.2 else .ok (false, x.2) := rfl
theorem e_or : mOr ta tb ρ = bnd (ta ρ) fun x => if x.1 = true then .ok (true, x.2) else tb x.2 := rfl
theorem e_not : mNot ta ρ = bnd (ta ρ) fun x => .ok (!x.1, x.2) := rfl
theorem e_andV : mAndV a b ρ = bnd (mB a ρ) fun x => if x.1 = true then b x.2 else .ok (.val (.bool false), x.2) := rfl
theorem e_orV : mOrV a b ρ = bnd (mB a ρ) fun x => if x.1 = true then .ok (.val (.bool true), x.2) else b x.2 := rfl
theorem e_notV : mNotV a ρ = bnd (mB a ρ) fun x => .ok (.val (.bool !x.1), x.2) := rfl
theorem e_ite : mIte ta a b ρ = bnd (ta ρ) fun x => if x.1 = true then a x.2 else b x.2 := rfl
def chB (ρ : EV) (k : Out (Rv × EV)) : Option Sl → Out (Rv × EV)
  | some (.val (.bool t)) => if t = true then k else .ok (.val (.bool false), ρ)
  | _ => .bad
theorem chB_b {k : Out (Rv × EV)} {t : Bool} : chB ρ k (some (.val (.bool t))) = if t = true then k else .ok (.val (.bool false), ρ) := rfl
theorem e_ch : mCh f g a b c ρ = bnd (fzO (a ρ)) fun x => bnd (fzO (b x.2)) fun y => rd1 y.2 x.1 fun d => rd1 y.2 y.1 fun e => chB y.2 (bnd (fzO (c y.2)) fun z => rd1 z.2 y.1 fun e' => rd1 z.2 z.1 fun k => giv z.2 (g e' k)) (f d e) := by
  unfold mCh bnd; cases fzO (a ρ) <;> try rfl
  rename_i x; dsimp only [Out.bind]; cases fzO (b x.2) <;> try rfl
  rename_i y; dsimp only [Out.bind]; unfold rd1
  cases rdv y.2 x.1 with
  | none => cases rdv y.2 y.1 <;> rfl
  | some d => cases rdv y.2 y.1 with
    | none => rfl
    | some e =>
      dsimp only [Out.bind]
      cases f d e with
      | none => rfl
      | some s => cases s with
        | own q => rfl
        | val q => cases q with
          | bool t => cases t with
            | false => rfl
            | true =>
              dsimp only [chB]
              cases fzO (c y.2) <;> try rfl
              rename_i z; dsimp only [Out.bind]
              cases rdv z.2 y.1 <;> cases rdv z.2 z.1 <;> rfl
          | _ => rfl
theorem e_anil : aNil ρ = .ok ([], ρ) := rfl
theorem e_acons : aCons a as ρ = bnd (fzO (a ρ)) fun x => bnd (as x.2) fun y => .ok (x.1 :: y.1, y.2) := rfl
def rds {α : Type} (ρ : EV) : List Rv → (List D → Out α) → Out α
  | [], k => k []
  | r :: rs, k => rd1 ρ r fun d => rds ρ rs fun ds => k (d :: ds)
theorem rds_nil {α : Type} {k : List D → Out α} : rds ρ [] k = k [] := rfl
theorem rds_cons {α : Type} {r : Rv} {rs : List Rv} {k : List D → Out α} : rds ρ (r :: rs) k = rd1 ρ r fun d => rds ρ rs fun ds => k (d :: ds) := rfl
theorem rds_eq {α : Type} : ∀ (rs : List Rv) (k : List D → Out α), rds ρ rs k = match rdvs ρ rs with | some ds => k ds | none => .bad
  | [], k => rfl
  | r :: rs, k => by
    rw [rds_cons]; unfold rd1; unfold rdvs
    cases rdv ρ r with
    | none => cases rdvs ρ rs <;> rfl
    | some d =>
      dsimp only [Out.bind]
      rw [rds_eq rs]
      cases rdvs ρ rs <;> rfl
theorem e_mN {f : List D → Option Sl} : mN f as ρ = bnd (as ρ) fun x => rds x.2 x.1 fun ds => giv x.2 (f ds) := by
  unfold mN bnd; cases as ρ <;> try rfl
  rename_i x; dsimp only [Out.bind]; rw [rds_eq]; try (cases rdvs x.2 x.1 <;> rfl)
def valsK {α : Type} : List Rv → (List D → Out α) → Out α
  | [], k => k []
  | .val d :: rs, k => valsK rs fun ds => k (d :: ds)
  | _ :: _, _ => .bad
theorem valsK_nil {α : Type} {k : List D → Out α} : valsK [] k = k [] := rfl
theorem valsK_cons {α : Type} {d : D} {rs : List Rv} {k : List D → Out α} : valsK (.val d :: rs) k = valsK rs fun ds => k (d :: ds) := rfl
theorem valsK_eq {α : Type} : ∀ (rs : List Rv) (k : List D → Out α), valsK rs k = match mTup.vals rs with | some ds => k ds | none => .bad
  | [], k => rfl
  | .val d :: rs, k => by
    rw [valsK_cons, valsK_eq rs, mTup.vals]
    cases mTup.vals rs <;> rfl
  | .own d :: rs, k => rfl
  | .ref d :: rs, k => rfl
theorem e_tup : mTup as ρ = bnd (as ρ) fun x => valsK x.1 fun ds => if ds.length ≤ sizeLine then .ok (.val (.tuple ds), x.2) else .bad := by
  unfold mTup bnd; cases as ρ <;> try rfl
  rename_i x; dsimp only [Out.bind]; rw [valsK_eq]; try (cases mTup.vals x.1 <;> rfl)
theorem e_lst : mLst as ρ = bnd (as ρ) fun x => valsK x.1 fun ds => if ds.length ≤ sizeLine then .ok (.own (.list ds), x.2) else .bad := by
  unfold mLst bnd; cases as ρ <;> try rfl
  rename_i x; dsimp only [Out.bind]; rw [valsK_eq]; try (cases mTup.vals x.1 <;> rfl)
/-! calls -/
def fin (ρ : EV) (rs : List Rv) [Tg (ρ, rs)] : Out (Rv × EV) → Out (Rv × EV)
  | .ok (.ref _, _) => .bad
  | .ok (.val d, as) => .ok (.val d, wb ρ rs as)
  | .ok (.own d, as) => .ok (.own d, wb ρ rs as)
  | .ex c f as => .ex c f (wb ρ rs as)
  | .bad => .bad
theorem fin_val {rs : List Rv} {as : EV} : fin ρ rs (.ok (.val d, as)) = .ok (.val d, wb ρ rs as) := rfl
theorem fin_own {rs : List Rv} {as : EV} : fin ρ rs (.ok (.own d, as)) = .ok (.own d, wb ρ rs as) := rfl
theorem fin_ex {rs : List Rv} {as : EV} {c : Str} {fs : List (D × D)} : fin ρ rs (.ex c fs as) = .ex c fs (wb ρ rs as) := rfl
theorem e_callF {mf : Mf} {rs : List Rv} : callF mf ρ rs = if ndR rs = true then fin ρ rs (mf (rs.map (argOf ρ))) else .bad := by
  unfold callF
  by_cases h : ndR rs = true
  · rw [if_pos h, if_pos h]
    cases mf (rs.map (argOf ρ)) with
    | ok x => obtain ⟨r, as⟩ := x; cases r <;> rfl
    | _ => rfl
  · rw [if_neg h, if_neg h]
theorem nd_nil : (ndR [] = true) = True := eq_true rfl
theorem nd_val {rs : List Rv} : ndR (.val d :: rs) = ndR rs := rfl
theorem nd_ref {rs : List Rv} : ndR (.ref i :: rs) = ((posOf i rs 0).isNone && ndR rs) := rfl
theorem pos_nil {n : Nat} : posOf i [] n = none := rfl
theorem pos_val {rs : List Rv} {n : Nat} : posOf i (.val d :: rs) n = posOf i rs (n + 1) := rfl
theorem pos_ref {rs : List Rv} {n : Nat} : posOf i (.ref j :: rs) n = if j = i then some n else posOf i rs (n + 1) := rfl
theorem arg_val : argOf ρ (.val d) = some (.val d) := rfl
def own2 : Option Sl → Option Sl
  | some (.own d) => some (.own d)
  | _ => none
theorem own2_own : own2 (some (.own d)) = some (.own d) := rfl
theorem arg_ref : argOf ρ (.ref i) = own2 (look ρ i) := by
  rw [look_eq]; unfold argOf; dsimp only
  cases h : ρ[i]? with
  | none => rfl
  | some x => cases x with
    | none => rfl
    | some s => cases s <;> rfl
theorem wb_get {rs : List Rv} {as : EV} : (wb ρ rs as)[i]? = (ρ[i]?).map fun x => match posOf i rs 0 with | some k => (as[k]?).getD x | none => x := by
  unfold wb; rw [List.getElem?_mapIdx]; try (cases ρ[i]? <;> try rfl)
theorem wb_nil {as : EV} : wb ρ [] as = ρ := by
  apply List.ext_getElem?; intro i; rw [wb_get]; simp [posOf]
theorem wb_val {rs : List Rv} {s : Option Sl} {as : EV} : wb ρ (.val d :: rs) (s :: as) = wb ρ rs as := by
  apply List.ext_getElem?; intro i; rw [wb_get, wb_get]; simp only [posOf]
  rw [posOf_shift i rs 0 1]
  cases posOf i rs 0 <;> simp
theorem wb_ref {rs : List Rv} {s : Option Sl} {as : EV} : wb ρ (.ref j :: rs) (s :: as) = (wb ρ rs as).set j s := by
  apply List.ext_getElem?; intro i
  rw [get_set, wb_get, wb_get]; simp only [posOf]
  rw [posOf_shift i rs 0 1]
  by_cases h : j = i
  · subst h
    rw [if_pos rfl, if_pos rfl]
    by_cases hl : j < ρ.length
    · rw [if_pos (by simp [wb]; exact hl), List.getElem?_eq_getElem hl]; simp
    · rw [if_neg (by simp [wb]; omega), List.getElem?_eq_none (by omega)]; rfl
  · rw [if_neg h, if_neg h]
    cases posOf i rs 0 <;> simp
theorem e_fn {mf : Mf} {dds : List D} : mFn mf dds as ρ = bnd (as ρ) fun x => callF mf x.2 (x.1 ++ dds.map Rv.val) := rfl
def rdR {α : Type} (ρ : EV) (r : Rv) (k : D → Out α) : Out α := match r with
  | .val d => k d
  | _ => .bad
theorem rdR_val {α : Type} {k : D → Out α} : rdR ρ (.val d) k = k d := rfl
theorem e_meth {mf : Mf} {cc x : Str} {dds : List D} : mMeth mf cc x dds o as ρ = bnd (fzO (o ρ)) fun r => rdR r.2 r.1 fun d => if hasM cc x d = true then bnd (as r.2) fun y => callF mf y.2 (.val d :: (y.1 ++ dds.map Rv.val)) else .bad := by
  unfold mMeth bnd; cases fzO (o ρ) <;> try rfl
theorem e_ownAt : ownAt ρ i = match look ρ i with | some (.own d) => some d | _ => none := by
  rw [look_eq]; unfold ownAt
  cases ρ[i]? with
  | none => rfl
  | some x => cases x with
    | none => rfl
    | some s => cases s <;> rfl
def tyK {α : Type} (T : String) (d : D) (k : Out α) : Out α := if tyB T d = true then k else .bad
theorem tyK_list {α : Type} {ds : List D} {k : Out α} : tyK "list" (.list ds) k = k := rfl
theorem tyK_str {α : Type} {z : Str} {k : Out α} : tyK "str" (.str z) k = k := rfl
theorem e_mM {T : String} {f : D → List D → Option Sl} : mM T f o as ρ = bnd (fzO (o ρ)) fun x => rd1 x.2 x.1 fun d0 => tyK T d0 (bnd (as x.2) fun y => rd1 y.2 x.1 fun d => rds y.2 y.1 fun ds => giv y.2 (f d ds)) := by
  unfold mM bnd; cases fzO (o ρ) <;> try rfl
  rename_i x; dsimp only [Out.bind]; unfold rd1; cases rdv x.2 x.1 <;> try rfl
  rename_i d0; dsimp only [Out.bind]; unfold tyK; split <;> try rfl
  cases as x.2 <;> try rfl
  rename_i y; dsimp only [Out.bind]
  cases rdv y.2 x.1 <;> dsimp only [Out.bind]
  rw [rds_eq]; cases rdvs y.2 y.1 <;> rfl
def mutK {α : Type} (k : D → D → Out α) : Option (D × D) → Out α
  | some (d, r) => k d r
  | none => .bad
theorem mutK_some {α : Type} {k : D → D → Out α} : mutK k (some (d, e)) = k d e := rfl
theorem e_mut {T : String} {f : D → List D → Option (D × D)} : mMut T i f as ρ = own1 (look ρ i) fun d0 => tyK T d0 (bnd (as ρ) fun y => own1 (look y.2 i) fun d => valsK y.1 fun ds => mutK (fun d' r => .ok (.val r, y.2.set i (some (.own d')))) (f d ds)) := by
  rw [look_eq]; unfold mMut
  cases ρ[i]? with
  | none => rfl
  | some x => cases x with
    | none => rfl
    | some s => cases s with
      | val d => rfl
      | own d =>
        dsimp only [Option.getD, own1]; unfold tyK; split <;> try rfl
        unfold bnd; cases as ρ <;> try rfl
        rename_i y; dsimp only [Out.bind]; rw [look_eq]
        cases y.2[i]? with
        | none => cases mTup.vals y.1 <;> rfl
        | some z => cases z with
          | none => cases mTup.vals y.1 <;> rfl
          | some q => cases q with
            | val z => cases mTup.vals y.1 <;> rfl
            | own z =>
              dsimp only [Option.getD]; rw [valsK_eq]
              cases mTup.vals y.1 with
              | none => rfl
              | some ds => dsimp only [Option.getD]; cases f z ds with
                | none => rfl
                | some p => rfl
theorem e_sl {lo hi : EV → Out (Option Int × EV)} : mSl a lo hi ρ = bnd (fzO (a ρ)) fun x => bnd (lo x.2) fun l => bnd (hi l.2) fun h => rd1 h.2 x.1 fun d => giv h.2 (slD d l.1 h.1) := by
  unfold mSl bnd; cases fzO (a ρ) <;> try rfl
theorem e_pno : pNo ρ = .ok (none, ρ) := rfl
def toI (ρ : EV) : Rv → Out (Option Int × EV)
  | .val (.int i) => .ok (some i, ρ)
  | _ => .bad
theorem toI_int {n : Int} : toI ρ (.val (.int n)) = .ok (some n, ρ) := rfl
theorem e_pI : pI a ρ = bnd (fzO (a ρ)) fun x => toI x.2 x.1 := by
  unfold pI bnd; cases fzO (a ρ) <;> try rfl
/-! walks -/
def seqD : D → Option (List D)
  | .list ds => some ds
  | .tuple ds => some ds
  | .str z => some (z.cps.toList.map fun c => .str ⟨#[c]⟩)
  | _ => none
def itK (ρ : EV) : Option (List D) → Out (List D × EV)
  | some ds => .ok (ds, ρ)
  | none => .bad
theorem itK_some {ds : List D} : itK ρ (some ds) = .ok (ds, ρ) := rfl
theorem seqD_list {ds : List D} : seqD (.list ds) = some ds := rfl
theorem seqD_tuple {ds : List D} : seqD (.tuple ds) = some ds := rfl
theorem e_iQ : iQ a ρ = bnd (fzO (a ρ)) fun x => rdR x.2 x.1 fun d => itK x.2 (seqD d) := by
  unfold iQ bnd; cases fzO (a ρ) <;> try rfl
  rename_i x; obtain ⟨r, ρ1⟩ := x; cases r <;> try rfl
  rename_i d; cases d <;> rfl
theorem e_for {it : EV → Out (List D × EV)} {g : Tgm} {body : EV → Out (Fl × EV)} : sFor it g body ρ = bnd (it ρ) fun x => loopG g body x.1 x.2 := rfl
theorem e_lc {it : EV → Out (List D × EV)} {g : Tgm} {vs : List Nat} {mt : EV → Out (Bool × EV)} : mLc it g vs mt a ρ = bnd (it ρ) fun x => lcGo g vs mt a x.1 [] x.2 := rfl
theorem e_gN : gN np i d ρ = if okSet np i ρ = true then some (ρ.set i (some (.val d))) else none := rfl
theorem e_gT {n : Nat} {gs : List D → EV → Option EV} {ds : List D} : gT n gs (.tuple ds) ρ = if ds.length = n then gs ds ρ else none := rfl
theorem e_gsNil : gsNil [] ρ = some ρ := rfl
theorem e_gsCons {g : Tgm} {r : List D → EV → Option EV} {ds : List D} : gsCons g r (d :: ds) ρ = (g d ρ).bind fun ρ1 => r ds ρ1 := rfl
def freeB : Option Sl → Bool
  | some (.own _) => false
  | _ => true
theorem freeB_none : freeB none = true := rfl
theorem freeB_val : freeB (some (.val d)) = true := rfl
theorem freeB_own : freeB (some (.own d)) = false := rfl
theorem e_okSet : okSet np i ρ = (decide (np ≤ i) || freeB (look ρ i)) := by
  rw [look_eq]; unfold okSet isOwn
  have : decide (i < np) = !decide (np ≤ i) := by rw [Bool.eq_iff_iff]; simp
  rw [this]
  cases ρ[i]? with
  | none => cases decide (np ≤ i) <;> rfl
  | some x => cases x with
    | none => cases decide (np ≤ i) <;> rfl
    | some s => cases s <;> cases decide (np ≤ i) <;> rfl
/-! statements -/
theorem e_next : sNext ρ = .ok (.next, ρ) := rfl
theorem e_brk : sBrk ρ = .ok (.brk, ρ) := rfl
theorem e_cont : sCont ρ = .ok (.cont, ρ) := rfl
def seqK (k : EV → Out (Fl × EV)) : Fl → EV → Out (Fl × EV)
  | .next, ρ => k ρ
  | f, ρ => .ok (f, ρ)
theorem seqK_next {k : EV → Out (Fl × EV)} : seqK k .next ρ = k ρ := rfl
theorem seqK_ret {k : EV → Out (Fl × EV)} : seqK k (.ret r) ρ = .ok (.ret r, ρ) := rfl
theorem seqK_brk {k : EV → Out (Fl × EV)} : seqK k .brk ρ = .ok (.brk, ρ) := rfl
theorem seqK_cont {k : EV → Out (Fl × EV)} : seqK k .cont ρ = .ok (.cont, ρ) := rfl
theorem e_seq : sSeq sa sb ρ = bnd (sa ρ) fun x => seqK sb x.1 x.2 := by
  unfold sSeq bnd; cases sa ρ <;> try rfl
  rename_i x; obtain ⟨f, ρ1⟩ := x; cases f <;> rfl
theorem e_if : sIf ta sa sb ρ = bnd (ta ρ) fun x => if x.1 = true then sa x.2 else sb x.2 := rfl
def retK (np : Nat) (ρ : EV) : Rv → Out (Fl × EV)
  | .val d => .ok (.ret (.val d), ρ)
  | .own d => .ok (.ret (.own d), ρ)
  | .ref i => if i < np then .bad else own1 (look ρ i) fun d => .ok (.ret (.own d), ρ)
theorem retK_val : retK np ρ (.val d) = .ok (.ret (.val d), ρ) := rfl
theorem retK_own : retK np ρ (.own d) = .ok (.ret (.own d), ρ) := rfl
theorem retK_ref : retK np ρ (.ref i) = if i < np then .bad else own1 (look ρ i) fun d => .ok (.ret (.own d), ρ) := rfl
theorem e_ret : sRet np a ρ = bnd (a ρ) fun x => retK np x.2 x.1 := by
  unfold sRet bnd; cases a ρ <;> try rfl
  rename_i x; obtain ⟨r, ρ1⟩ := x; cases r <;> try rfl
  rename_i i; dsimp only [retK, Out.bind]; rw [look_eq]
  cases ρ1[i]? with
  | none => rfl
  | some y => cases y with
    | none => rfl
    | some s => cases s <;> rfl
theorem e_expr : sExpr a ρ = bnd (a ρ) fun x => .ok (.next, x.2) := rfl
theorem e_setV : sSetV np i a ρ = bnd (fzO (a ρ)) fun x => rdR x.2 x.1 fun d => if okSet np i x.2 = true then .ok (.next, x.2.set i (some (.val d))) else .bad := by
  unfold sSetV bnd; cases fzO (a ρ) <;> try rfl
def ownR {α : Type} (r : Rv) (k : D → Out α) : Out α := match r with
  | .own d => k d
  | _ => .bad
theorem ownR_own {α : Type} {k : D → Out α} : ownR (.own d) k = k d := rfl
theorem e_setO : sSetO np i a ρ = bnd (a ρ) fun x => ownR x.1 fun d => if okSet np i x.2 = true then .ok (.next, x.2.set i (some (.own d))) else .bad := by
  unfold sSetO bnd; cases a ρ <;> try rfl
def outK : Option EV → Out (Fl × EV)
  | some ρ => .ok (.next, ρ)
  | none => .bad
theorem outK_some : outK (some ρ) = .ok (.next, ρ) := rfl
theorem e_sTup {g : Tgm} : sTup g a ρ = bnd (fzO (a ρ)) fun x => rdR x.2 x.1 fun d => outK (g d x.2) := by
  unfold sTup bnd; cases fzO (a ρ) <;> try rfl
end
end Fr
namespace Fr
open PySem L2
section
variable {ρ ρ' : EV} {a b c o k v x : EV → Out (Rv × EV)} {ta tb : EV → Out (Bool × EV)} {sa sb : EV → Out (Fl × EV)} {as : EV → Out (List Rv × EV)} {np nl i j : Nat} {d e : D} {r : Rv} {f g : D → D → Option Sl}
theorem e_noX {y : Rv × EV} : noX (.ok y) = .ok y := rfl
theorem e_prp {mf : Mf} {cc : Str} : mPrp mf cc o ρ = bnd (fzO (o ρ)) fun r => rdR r.2 r.1 fun d => if isOb cc d = true then noX (callF mf r.2 [.val d]) else .bad := by
  unfold mPrp bnd; cases fzO (o ρ) <;> try rfl
theorem newO_ok {n : Nat} : newO n (.ok (.val .none, ρ)) = own1 (look ρ n) fun d => .ok (.own d, ρ.take n) := by
  rw [look_eq]; unfold newO; dsimp only
  cases ρ[n]? with
  | none => rfl
  | some y => cases y with
    | none => rfl
    | some s => cases s <;> rfl
theorem e_new {mf : Mf} {cc : Str} {dds : List D} : mNew mf cc dds as ρ = bnd (as ρ) fun y => newO y.2.length (callF mf (y.2 ++ [some (.own (.dict [(.none, .str cc)]))]) (.ref y.2.length :: (y.1 ++ dds.map Rv.val))) := rfl
def optK {α β : Type} (k : α → Out β) : Option α → Out β
  | some d => k d
  | none => .bad
theorem optK_some {α β : Type} {k : α → Out β} {y : α} : optK k (some y) = k y := rfl
theorem optK_none {α β : Type} {k : α → Out β} : optK k none = .bad := rfl
theorem e_fldO {cc ff : Str} : sFldO i cc ff v ρ = bnd (fzO (v ρ)) fun y => rdR y.2 y.1 fun dv => own1 (look y.2 i) fun d => optK (fun d' => .ok (.next, y.2.set i (some (.own d')))) (putO cc ff dv d) := by
  unfold sFldO bnd; cases fzO (v ρ) <;> try rfl
  rename_i y; obtain ⟨r, ρ1⟩ := y; cases r <;> try rfl
  rename_i dv; dsimp only [Out.bind, rdR]; rw [e_ownAt]
  cases look ρ1 i with
  | none => rfl
  | some s => cases s with
    | val q => rfl
    | own q => dsimp only [own1]; cases putO cc ff dv q <;> rfl
def idxS (ρ : EV) (ds : List D) : Rv → Out (Rv × EV)
  | .val (.str z) => optK (fun j => .ok (.val (.int (j : Nat)), ρ)) (idxT ds z)
  | _ => .bad
theorem idxS_str {ds : List D} {z : Str} : idxS ρ ds (.val (.str z)) = optK (fun j => .ok (.val (.int (j : Nat)), ρ)) (idxT ds z) := rfl
def idxR (x : EV → Out (Rv × EV)) (ρ : EV) : Rv → Out (Rv × EV)
  | .val (.tuple ds) => if stD ds = true then bnd (fzO (x ρ)) fun y => idxS y.2 ds y.1 else .bad
  | r => rd1 ρ r fun d0 => tyK "list" d0 (bnd (aCons x aNil ρ) fun y => rd1 y.2 r fun d => rds y.2 y.1 fun ds => giv y.2 (idxL d ds))
theorem idxR_tup {ds : List D} : idxR x ρ (.val (.tuple ds)) = if stD ds = true then bnd (fzO (x ρ)) fun y => idxS y.2 ds y.1 else .bad := rfl
theorem idxR_list {ds : List D} : idxR x ρ (.val (.list ds)) = bnd (aCons x aNil ρ) fun y => rds y.2 y.1 fun es => giv y.2 (idxL (.list ds) es) := rfl
theorem e_idx : mIdx o x ρ = bnd (fzO (o ρ)) fun r => idxR x r.2 r.1 := by
  unfold mIdx
  have key : mM "list" idxL o (aCons x aNil) ρ = bnd (fzO (o ρ)) fun x_1 => rd1 x_1.2 x_1.1 fun d0 => tyK "list" d0 (bnd (aCons x aNil x_1.2) fun y => rd1 y.2 x_1.1 fun d => rds y.2 y.1 fun ds => giv y.2 (idxL d ds)) := e_mM
  by_cases h : isTupO (fzO (o ρ)) = true
  · rw [if_pos h]
    unfold mIdxT
    cases q : fzO (o ρ) with
    | bad => rfl
    | ex c f ρ' => rfl
    | ok y =>
      rw [q] at h
      obtain ⟨r, ρ1⟩ := y
      cases r with
      | own d => cases h
      | ref d => cases h
      | val d => cases d with
        | tuple ds =>
          dsimp only [Out.bind, bnd, idxR]
          by_cases st : stD ds = true
          · rw [if_pos st, if_pos st]
            cases fzO (x ρ1) <;> try rfl
            rename_i y; obtain ⟨r2, ρ2⟩ := y
            cases r2 <;> try rfl
            rename_i d2; cases d2 <;> try rfl
            rename_i z; dsimp only [Out.bind, idxS]; cases idxT ds z <;> rfl
          · rw [if_neg st, if_neg st]
        | _ => cases h
  · rw [if_neg h, key]
    cases q : fzO (o ρ) with
    | bad => rfl
    | ex c f ρ' => rfl
    | ok y =>
      rw [q] at h
      obtain ⟨r, ρ1⟩ := y
      cases r with
      | own d => rfl
      | ref d => rfl
      | val d => cases d with
        | tuple ds => exact (h rfl).elim
        | _ => rfl
theorem e_get2 : mGet2 o k x ρ = bnd (fzO (o ρ)) fun r => rdR r.2 r.1 fun d => if isDc d = true then bnd (fzO (k r.2)) fun y => rdR y.2 y.1 fun e => bnd (fzO (x y.2)) fun z => rdR z.2 z.1 fun g => optK (fun ov => .ok (.val (ov.getD g), z.2)) (dgD d e) else .bad := by
  unfold mGet2 bnd; cases fzO (o ρ) <;> try rfl
  rename_i r; obtain ⟨r, ρ1⟩ := r; cases r <;> try rfl
  rename_i d; dsimp only [Out.bind, rdR]; split <;> try rfl
  cases fzO (k ρ1) <;> try rfl
  rename_i r; obtain ⟨r, ρ2⟩ := r; cases r <;> try rfl
  rename_i e; dsimp only [Out.bind, rdR]
  cases fzO (x ρ2) <;> try rfl
  rename_i r; obtain ⟨r, ρ3⟩ := r; cases r <;> try rfl
  rename_i g; dsimp only [Out.bind, rdR]; cases dgD d e <;> rfl
def toV (ρ : EV) (neg : Bool) : Rv → Out (Rv × EV)
  | .val (.bool t) => .ok (.val (.bool (t != neg)), ρ)
  | _ => .bad
theorem toV_b {t neg : Bool} : toV ρ neg (.val (.bool t)) = .ok (.val (.bool (t != neg)), ρ) := rfl
theorem e_inO {mf : Mf} {cc : Str} {neg : Bool} : mInO mf cc neg a b ρ = bnd (fzO (a ρ)) fun x => rdR x.2 x.1 fun d => bnd (fzO (b x.2)) fun y => rdR y.2 y.1 fun ob => if isOb cc ob = true then bnd (callF mf y.2 [.val ob, .val d]) fun z => toV z.2 neg z.1 else .bad := by
  unfold mInO bnd; cases fzO (a ρ) <;> try rfl
theorem e_frzE : frzE i ρ = match look ρ i with | some (.own d) => ρ.set i (some (.val d)) | _ => ρ := by
  rw [look_eq]; unfold frzE
  cases ρ[i]? with
  | none => rfl
  | some y => cases y with
    | none => rfl
    | some s => cases s <;> rfl
theorem e_sfrz : sFrz np i sa ρ = if okSet np i ρ = true then sa (frzE i ρ) else .bad := rfl
theorem e_fzBt {y : Out (Rv × EV)} : fzB true y = y := rfl
theorem e_fzBf {y : Out (Rv × EV)} : fzB false y = fzO y := rfl
theorem e_par2 {oi oj : Bool} : sPar2 np i oi j oj a b ρ = bnd (fzB oi (a ρ)) fun x => bnd (fzB oj (b x.2)) fun y => outO ((setR np i x.1 y.2).bind fun ρ1 => setR np j y.1 ρ1) := rfl
theorem e_outO : outO (some ρ) = .ok (.next, ρ) := rfl
theorem setR_val : setR np i (.val d) ρ = if okSet np i ρ = true then some (ρ.set i (some (.val d))) else none := rfl
theorem setR_own : setR np i (.own d) ρ = if okSet np i ρ = true then some (ρ.set i (some (.own d))) else none := rfl
theorem e_dnil : dPairs [] ρ = .ok ([], ρ) := rfl
theorem e_dcons {ms : List (Mx × Mx)} : dPairs ((a, b) :: ms) ρ = bnd (fzO (a ρ)) fun x => rdR x.2 x.1 fun dk => bnd (fzO (b x.2)) fun y => rdR y.2 y.1 fun dv => bnd (dPairs ms y.2) fun z => .ok ((dk, dv) :: z.1, z.2) := by
  show (fzO (a ρ)).bind _ = _
  unfold bnd; cases fzO (a ρ) <;> try rfl
theorem e_disp {ms : List (Mx × Mx)} : mDisp ms ρ = bnd (dPairs ms ρ) fun x => optK (fun kds => if kds.length ≤ 15 then .ok (.own (.dict (encK (mergeA [] kds))), x.2) else .bad) (keysD x.1) := by
  unfold mDisp bnd; cases dPairs ms ρ <;> try rfl
  rename_i x; dsimp only [Out.bind]; cases keysD x.1 <;> rfl
def isiK (T : Ty) (d : D) : Option Sl := if isObj d = true then none else some (.val (.bool (isiB T d)))
theorem e_isi {T : Ty} : mIsi T a ρ = m1 (isiK T) a ρ := rfl
def isiK2 (T U : Ty) (d : D) : Option Sl := if isObj d = true then none else some (.val (.bool (isiB T d || isiB U d)))
theorem e_isi2 {T U : Ty} : mIsi2 T U a ρ = m1 (isiK2 T U) a ρ := rfl
theorem isiK_int {T : Ty} {n : Int} : isiK T (.int n) = some (.val (.bool (isiB T (.int n)))) := rfl
theorem isiK_str {T : Ty} {z : Str} : isiK T (.str z) = some (.val (.bool (isiB T (.str z)))) := rfl
theorem isiK_tup {T : Ty} {ds : List D} : isiK T (.tuple ds) = some (.val (.bool (isiB T (.tuple ds)))) := rfl
theorem isiK_lst {T : Ty} {ds : List D} : isiK T (.list ds) = some (.val (.bool (isiB T (.list ds)))) := rfl
theorem isiK_non {T : Ty} : isiK T .none = some (.val (.bool (isiB T .none))) := rfl
theorem isiK2_tup {T U : Ty} {ds : List D} : isiK2 T U (.tuple ds) = some (.val (.bool (isiB T (.tuple ds) || isiB U (.tuple ds)))) := rfl
theorem isiK2_lst {T U : Ty} {ds : List D} : isiK2 T U (.list ds) = some (.val (.bool (isiB T (.list ds) || isiB U (.list ds)))) := rfl
theorem isiB_ii {n : Int} : isiB .int (.int n) = true := rfl
theorem isiB_bi {n : Int} : isiB .bool (.int n) = false := rfl
theorem isiB_ti {n : Int} : isiB .tuple (.int n) = false := rfl
theorem isiB_si {n : Int} : isiB .str (.int n) = false := rfl
theorem isiB_tt {ds : List D} : isiB .tuple (.tuple ds) = true := rfl
theorem isiB_ts {z : Str} : isiB .tuple (.str z) = false := rfl
theorem isiB_ss {z : Str} : isiB .str (.str z) = true := rfl
theorem isiB_st {ds : List D} : isiB .str (.tuple ds) = false := rfl
theorem isiB_lt {ds : List D} : isiB .list (.tuple ds) = false := rfl
theorem isiB_ll {ds : List D} : isiB .list (.list ds) = true := rfl
theorem isiB_tl {ds : List D} : isiB .tuple (.list ds) = false := rfl
theorem isiB_tn : isiB .tuple .none = false := rfl
theorem isiB_sn : isiB .str .none = false := rfl
def one1 (ρ : EV) (k : D → Out (List D × EV)) : List Rv → Out (List D × EV)
  | [.val d] => k d
  | _ => .bad
theorem one1_val {k : D → Out (List D × EV)} : one1 ρ k [.val d] = k d := rfl
def enK (ρ : EV) : D → Out (List D × EV)
  | .list ds => .ok (enumD ds, ρ)
  | .tuple ds => .ok (enumD ds, ρ)
  | _ => .bad
theorem enK_list {ds : List D} : enK ρ (.list ds) = .ok (enumD ds, ρ) := rfl
theorem enK_tup {ds : List D} : enK ρ (.tuple ds) = .ok (enumD ds, ρ) := rfl
theorem e_iE : iE as ρ = bnd (as ρ) fun x => one1 x.2 (enK x.2) x.1 := by
  unfold iE bnd; cases as ρ <;> try rfl
  rename_i x; obtain ⟨rs, ρ1⟩ := x
  cases rs with
  | nil => rfl
  | cons r rs => cases r with
    | own d => rfl
    | ref d => rfl
    | val d => cases rs with
      | nil => cases d <;> rfl
      | cons _ _ => cases d <;> rfl
def rgK (ρ : EV) : D → Out (List D × EV)
  | .int j => if -(2 ^ 62) ≤ j ∧ j < 2 ^ 62 then .ok (rngD 0 j.toNat, ρ) else .bad
  | _ => .bad
theorem rgK_int {n : Int} : rgK ρ (.int n) = if -(2 ^ 62) ≤ n ∧ n < 2 ^ 62 then .ok (rngD 0 n.toNat, ρ) else .bad := rfl
theorem e_iR1 : iR1 as ρ = bnd (as ρ) fun x => one1 x.2 (rgK x.2) x.1 := by
  unfold iR1 bnd; cases as ρ <;> try rfl
  rename_i x; obtain ⟨rs, ρ1⟩ := x
  cases rs with
  | nil => rfl
  | cons r rs => cases r with
    | own d => rfl
    | ref d => rfl
    | val d => cases rs with
      | nil => cases d <;> rfl
      | cons _ _ => cases d <;> rfl
/-! operations on known data -/
theorem o_ltI {m n : Int} : ltD (.int m) (.int n) = some (.val (.bool (decide (m < n)))) := rfl
theorem o_leI {m n : Int} : leD (.int m) (.int n) = some (.val (.bool (decide (m ≤ n)))) := rfl
theorem o_gtI {m n : Int} : gtD (.int m) (.int n) = some (.val (.bool (decide (n < m)))) := rfl
theorem o_geI {m n : Int} : geD (.int m) (.int n) = some (.val (.bool (decide (n ≤ m)))) := rfl
theorem o_eqI {m n : Int} : eqD (.int m) (.int n) = some (.val (.bool (decide (m = n)))) := eqD_int m n
theorem o_neI {m n : Int} : neD (.int m) (.int n) = some (.val (.bool (!decide (m = n)))) := neD_int m n
theorem o_eqS {m n : Str} : eqD (.str m) (.str n) = some (.val (.bool (decide (m = n)))) := rfl
theorem o_neS {m n : Str} : neD (.str m) (.str n) = some (.val (.bool (!decide (m = n)))) := rfl
theorem o_addI {m n : Int} : addD (.int m) (.int n) = some (.val (.int (m + n))) := rfl
theorem o_subI {m n : Int} : subD (.int m) (.int n) = some (.val (.int (m - n))) := rfl
theorem o_ixL {xs : List D} {n : Int} : ixA (.list xs) (.int n) = (atI xs n).map Sl.val := ixA_list xs n
theorem o_ixT {xs : List D} {n : Int} : ixA (.tuple xs) (.int n) = (atI xs n).map Sl.val := ixA_tuple xs n
theorem at0 {α : Type} {x : α} {xs : List α} : atI (x :: xs) 0 = some x := by
  unfold atI ixN; simp
theorem at1 {α : Type} {x y : α} {xs : List α} : atI (x :: y :: xs) 1 = some y := by
  unfold atI ixN; rw [if_pos (by decide), if_pos (by simp only [List.length_cons]; omega)]; rfl
theorem at2 {α : Type} {x y z : α} {xs : List α} : atI (x :: y :: z :: xs) 2 = some z := by
  unfold atI ixN; rw [if_pos (by decide), if_pos (by simp only [List.length_cons]; omega)]; rfl
theorem at3 {α : Type} {x y z u : α} {xs : List α} : atI (x :: y :: z :: u :: xs) 3 = some u := by
  unfold atI ixN; rw [if_pos (by decide), if_pos (by simp only [List.length_cons]; omega)]; rfl
theorem o_isNn {e : D} : isN .none .none = some (.val (.bool true)) := rfl
theorem o_lenL {xs : List D} : lenD [.list xs] = some (.val (.int xs.length)) := rfl
theorem o_lenT {xs : List D} : lenD [.tuple xs] = some (.val (.int xs.length)) := rfl
theorem o_tupL {xs : List D} : tupleD [.list xs] = some (.val (.tuple xs)) := rfl
theorem o_tupT {xs : List D} : tupleD [.tuple xs] = some (.val (.tuple xs)) := rfl
theorem o_lstL {xs : List D} : listD [.list xs] = some (.own (.list xs)) := rfl
theorem o_lstT {xs : List D} : listD [.tuple xs] = some (.own (.list xs)) := rfl
end
end Fr
namespace Fr
open PySem L2
section
variable {ρ ρ' : EV} {a b c o k v x : EV → Out (Rv × EV)} {as : EV} {np nl i j : Nat} {d e : D} {r : Rv}
/-! ### a def's run -/
def retO (as : EV) [Tg as] : Out (Fl × EV) → Out (Rv × EV)
  | .ok (.ret r, ρ) => .ok (r, outE as ρ)
  | .ok (.next, ρ) => .ok (.val .none, outE as ρ)
  | .ok _ => .bad
  | .ex c f ρ => .ex c f (outE as ρ)
  | .bad => .bad
theorem retO_ret : retO as (.ok (.ret r, ρ)) = .ok (r, outE as ρ) := rfl
theorem retO_next : retO as (.ok (.next, ρ)) = .ok (.val .none, outE as ρ) := rfl
theorem retO_bad : retO as .bad = .bad := rfl
theorem retO_ite {p : Prop} [Decidable p] {y z : Out (Fl × EV)} : retO as (if p then y else z) = if p then retO as y else retO as z := by split <;> rfl
theorem w_retb {α : Type} {o : Out α} {k : α → Out (Fl × EV)} {Q : Rv × EV → Prop} (h : W o fun y => W (retO as (k y)) Q) : W (retO as (bnd o k)) Q := by
  obtain ⟨y, e, q⟩ := h.ex
  subst e
  exact q
theorem e_run {mb : EV → Out (Fl × EV)} : runF np nl mb as = if as.length = np then retO as (mb (as ++ List.replicate (nl - np) none)) else .bad := by
  unfold runF
  split <;> rfl
theorem outE_nil {ρ : EV} : outE [] ρ = [] := rfl
theorem outE_val {s : Option Sl} : outE (some (.val d) :: as) (s :: ρ) = some (.val d) :: outE as ρ := by
  unfold outE; rw [List.mapIdx_cons]; congr 1
theorem outE_own {s : Option Sl} : outE (some (.own d) :: as) (s :: ρ) = s :: outE as ρ := by
  unfold outE; rw [List.mapIdx_cons]; congr 1
/-! ### lists -/
theorem l_map0 {α β : Type} {f : α → β} : List.map f [] = [] := rfl
theorem l_map {α β : Type} {f : α → β} {y : α} {l : List α} : List.map f (y :: l) = f y :: List.map f l := rfl
theorem l_app0 {α : Type} {l : List α} : l ++ [] = l := List.append_nil l
theorem l_app1 {α : Type} {l : List α} : [] ++ l = l := rfl
theorem l_app {α : Type} {y : α} {l m : List α} : (y :: l) ++ m = y :: (l ++ m) := rfl
theorem l_rep0 {α : Type} {y : α} : List.replicate 0 y = [] := rfl
theorem l_rep {α : Type} {y : α} {n : Nat} : List.replicate (n + 1) y = y :: List.replicate n y := rfl
theorem l_set0 {α : Type} {y z : α} {l : List α} : List.set (y :: l) 0 z = z :: l := rfl
theorem l_set {α : Type} {y z : α} {l : List α} {n : Nat} : List.set (y :: l) (n + 1) z = y :: List.set l n z := rfl
theorem l_len0 {α : Type} : List.length ([] : List α) = 0 := rfl
theorem l_len {α : Type} {y : α} {l : List α} : List.length (y :: l) = List.length l + 1 := rfl
theorem l_tk0 {α : Type} {l : List α} : List.take 0 l = [] := rfl
theorem l_tk {α : Type} {y : α} {l : List α} {n : Nat} : List.take (n + 1) (y :: l) = y :: List.take n l := rfl
theorem o_map {α β : Type} {f : α → β} {y : α} : Option.map f (some y) = some (f y) := rfl
theorem o_bind {α β : Type} {f : α → Option β} {y : α} : Option.bind (some y) f = f y := rfl
theorem b_and1 {t : Bool} : (true && t) = t := rfl
theorem b_and0 {t : Bool} : (false && t) = false := rfl
theorem b_or1 {t : Bool} : (true || t) = true := rfl
theorem b_or0 {t : Bool} : (false || t) = t := rfl
theorem b_andr {t : Bool} : (t && true) = t := Bool.and_true t
theorem b_not1 : (!true) = false := rfl
theorem b_not0 : (!false) = true := rfl
theorem b_nef {t : Bool} : (t != false) = t := by cases t <;> rfl
theorem b_net {t : Bool} : (t != true) = !t := by cases t <;> rfl
theorem o_none1 {α : Type} : Option.isNone (none : Option α) = true := rfl
theorem o_none2 {α : Type} {y : α} : Option.isNone (some y) = false := rfl
theorem size_0 : (0 ≤ sizeLine) = True := eq_true (Nat.zero_le _)
theorem d_true {h : Decidable True} : @decide True h = true := by simp
theorem d_false {h : Decidable False} : @decide False h = false := by simp
theorem b_tt : (true = true) = True := eq_self true
theorem b_ft : (false = true) = False := eq_false Bool.false_ne_true
theorem enum_get {α : Type} {ts : List α} {enc : α → D} {j : Nat} {d : D} (h : (enumD (ts.map enc))[j]? = some d) : ∃ t, ts[j]? = some t ∧ d = .tuple [.int (j : Nat), enc t] := by
  unfold enumD at h
  rw [List.getElem?_mapIdx, List.getElem?_map] at h
  cases e : ts[j]? with
  | none => rw [e] at h; cases h
  | some t => rw [e] at h; exact ⟨t, rfl, by simpa using h.symm⟩
/-! ### list comprehensions -/
theorem wipe_nil : wipeE ρ [] = ρ := rfl
theorem wipe_one {w : Nat} {ws : List Nat} : wipeE ρ (w :: ws) = (wipeE ρ ws).set w none := rfl
theorem back_get {vs : List Nat} : (back ρ vs ρ')[i]? = if i ∈ vs then (ρ'[i]?).map (fun _ => look ρ i) else ρ'[i]? := by
  unfold back; rw [List.getElem?_mapIdx, look_eq]
  cases ρ'[i]? <;> by_cases h : i ∈ vs <;> simp [h]
theorem back_nil : back ρ [] ρ' = ρ' := by
  apply List.ext_getElem?; intro i; rw [back_get]; simp
theorem back_one {w : Nat} {ws : List Nat} : back ρ (w :: ws) ρ' = (back ρ ws ρ').set w (look ρ w) := by
  apply List.ext_getElem?; intro i
  rw [get_set, back_get, back_get]
  by_cases h : w = i
  · subst h
    rw [if_pos (List.mem_cons_self), if_pos rfl]
    have hl : (back ρ ws ρ').length = ρ'.length := by unfold back; simp
    by_cases q : w < ρ'.length
    · rw [if_pos (by omega), List.getElem?_eq_getElem q]; rfl
    · rw [if_neg (by omega), List.getElem?_eq_none (by omega)]; rfl
  · rw [if_neg h]
    have : (i ∈ w :: ws) = (i ∈ ws) := by simp [Ne.symm h]
    simp only [this]
def lcStep (g : Tgm) (vs : List Nat) (mt : EV → Out (Bool × EV)) (me : EV → Out (Rv × EV)) (d : D) (ρ : EV) : Out (Option D × EV) :=
  optK (fun ρ1 => bnd (mt ρ1) fun y => if y.1 = true then bnd (fzO (me y.2)) fun z => rdR z.2 z.1 fun w => .ok (some w, back ρ vs z.2) else .ok (none, back ρ vs y.2)) (g d (wipeE ρ vs))
theorem e_yes : mYes ρ = .ok (true, ρ) := rfl
theorem w_lcI {g : Tgm} {vs : List Nat} {mt : EV → Out (Bool × EV)} {me : EV → Out (Rv × EV)} {Q : Rv × EV → Prop} {ds : List D} (I : Nat → List D → EV → Prop) (h0 : I 0 [] ρ) (hl : ds.length ≤ 1000000)
    (step : ∀ (j : Nat) (d : D) (acc : List D) (ρ1 : EV), ds[j]? = some d → I j acc ρ1 → W (lcStep g vs mt me d ρ1) fun y => I (j + 1) (acc ++ y.1.toList) y.2) (fin : ∀ acc ρ1, I ds.length acc ρ1 → Q (.own (.list acc), ρ1)) : W (lcGo g vs mt me ds [] ρ) Q := by
  refine w_lcGo I ds 0 [] ρ h0 (by simpa using hl) (fun j d acc ρ1 hd hi => ?_) (fun acc ρ1 hi => fin acc ρ1 (by simpa using hi))
  rw [Nat.zero_add] at hi ⊢
  have := step j d acc ρ1 hd hi
  unfold lcStep at this
  cases e1 : g d (wipeE ρ1 vs) with
  | none => rw [e1] at this; obtain ⟨_, z, _⟩ := this.ex; cases z
  | some ρ2 =>
    rw [e1] at this
    refine ⟨ρ2, rfl, ?_⟩
    change W (bnd (mt ρ2) _) _ at this
    cases e2 : mt ρ2 with
    | bad => rw [e2] at this; obtain ⟨_, z, _⟩ := this.ex; cases z
    | ex _ _ _ => rw [e2] at this; obtain ⟨_, z, _⟩ := this.ex; cases z
    | ok y =>
      rw [e2] at this
      obtain ⟨t, ρ3⟩ := y
      refine .ok ⟨fun ht => ?_, fun ht => ?_⟩
      · have ht : t = true := ht
        subst ht
        change W (bnd (fzO (me ρ3)) _) _ at this
        cases e3 : me ρ3 with
        | bad => rw [e3] at this; obtain ⟨_, z, _⟩ := this.ex; cases z
        | ex _ _ _ => rw [e3] at this; obtain ⟨_, z, _⟩ := this.ex; cases z
        | ok y =>
          rw [e3] at this
          obtain ⟨r, ρ4⟩ := y
          cases r with
          | ref i => obtain ⟨_, z, _⟩ := this.ex; cases z
          | own w => obtain ⟨_, z, q⟩ := this.ex; cases z; exact .ok ⟨w, rfl, q⟩
          | val w => obtain ⟨_, z, q⟩ := this.ex; cases z; exact .ok ⟨w, rfl, q⟩
      · have ht : t = false := ht
        subst ht
        obtain ⟨_, z, q⟩ := this.ex
        cases z
        simpa using q
/-- nothing changes: a map of what is kept -/
theorem w_lcF {α : Type} {g : Tgm} {vs : List Nat} {mt : EV → Out (Bool × EV)} {me : EV → Out (Rv × EV)} {Q : Rv × EV → Prop} (ts : List α) (enc : α → D) (f : α → Option D) (hl : ts.length ≤ 1000000)
    (step : ∀ t ∈ ts, lcStep g vs mt me (enc t) ρ = .ok (f t, ρ)) (fin : Q (.own (.list (ts.filterMap f)), ρ)) : W (lcGo g vs mt me (ts.map enc) [] ρ) Q := by
  refine w_lcI (fun j acc ρ1 => ρ1 = ρ ∧ acc = (ts.take j).filterMap f) ⟨rfl, rfl⟩ (by simpa using hl) (fun j d acc ρ1 hd hi => ?_) (fun acc ρ1 hi => ?_)
  · obtain ⟨rfl, rfl⟩ := hi
    rw [List.getElem?_map] at hd
    obtain ⟨t, ht, rfl⟩ := Option.map_eq_some_iff.mp hd
    refine .of (step t (List.mem_of_getElem? ht)) ⟨rfl, ?_⟩
    rw [List.take_add_one, ht, List.filterMap_append]
    cases e : f t <;> simp [e]
  · obtain ⟨rfl, rfl⟩ := hi
    rw [List.length_map, List.take_length]; exact fin
theorem w_lcM {α : Type} {g : Tgm} {vs : List Nat} {mt : EV → Out (Bool × EV)} {me : EV → Out (Rv × EV)} {Q : Rv × EV → Prop} (ts : List α) (enc : α → D) (f : α → D) (hl : ts.length ≤ 1000000)
    (step : ∀ t ∈ ts, lcStep g vs mt me (enc t) ρ = .ok (some (f t), ρ)) (fin : Q (.own (.list (ts.map f)), ρ)) : W (lcGo g vs mt me (ts.map enc) [] ρ) Q := by
  refine w_lcF ts enc (fun t => some (f t)) hl step ?_
  rw [show (fun t => some (f t)) = some ∘ f from rfl, List.filterMap_eq_map]; exact fin
theorem bools_map : ∀ bs : List Bool, bools (bs.map .bool) = some bs
  | [] => rfl
  | b :: bs => by rw [List.map_cons, bools, bools_map bs]; rfl
theorem o_all (bs : List Bool) : allD [.list (bs.map .bool)] = some (.val (.bool (bs.all id))) := by
  simp only [allD, one, allD1, bools_map, Option.map_some]
theorem o_allM {α : Type} (ts : List α) (p : α → Bool) : allD [.list (ts.map fun t => .bool (p t))] = some (.val (.bool (ts.all p))) := by
  have := o_all (ts.map p)
  rw [List.map_map, List.all_map] at this
  exact this
/-! ### for -/
theorem w_forI {g : Tgm} {body : EV → Out (Fl × EV)} {Q : Fl × EV → Prop} {ds : List D} (I : Nat → EV → Prop) (h0 : I 0 ρ)
    (step : ∀ (j : Nat) (d : D) (ρ1 : EV), ds[j]? = some d → I j ρ1 → W (optK body (g d ρ1)) fun y => match y.1 with
      | .next => I (j + 1) y.2
      | .cont => I (j + 1) y.2
      | .brk => Q (.next, y.2)
      | .ret r => Q (.ret r, y.2)) (fin : ∀ ρ1, I ds.length ρ1 → Q (.next, ρ1)) : W (loopG g body ds ρ) Q := by
  refine w_loop I ds 0 ρ h0 (fun j d ρ1 hd hi => ?_) (fun ρ1 hi => fin ρ1 (by simpa using hi))
  rw [Nat.zero_add] at hi ⊢
  have := step j d ρ1 hd hi
  cases e : g d ρ1 with
  | none => rw [e] at this; obtain ⟨_, z, _⟩ := this.ex; cases z
  | some ρ2 => rw [e] at this; exact ⟨ρ2, rfl, this⟩
theorem rng_get {n j : Nat} {d : D} (h : (rngD 0 n)[j]? = some d) : j < n ∧ d = .int (j : Nat) := by
  unfold rngD at h
  rw [List.getElem?_map] at h
  obtain ⟨t, ht, rfl⟩ := Option.map_eq_some_iff.mp h
  obtain ⟨h1, h2⟩ := List.getElem?_eq_some_iff.mp ht
  rw [List.getElem_range] at h2
  subst h2
  exact ⟨by simpa using h1, by simp⟩
theorem rng_len {n : Nat} : (rngD 0 n).length = n := by simp [rngD]
end
end Fr
namespace Sh
open PySem L2 Fr
def b__law_alike : EV → Out (Fl × EV) :=
  (sRet 2 (mAndV (m2 eqD (mVar 0) (mVar 1)) (m2 eqD (mN reprA (aCons (mVar 0) aNil)) (mN reprA (aCons (mVar 1) aNil)))))
def m__law_alike : Mf := runF 2 2 b__law_alike
def b_is_integer : EV → Out (Fl × EV) :=
  (sRet 1 (mAndV (mIsi .int (mVar 0)) (mNotV (mIsi .bool (mVar 0)))))
def m_is_integer : Mf := runF 1 1 b_is_integer
def b_is_between : EV → Out (Fl × EV) :=
  (sRet 3 (mAndV (mFn m_is_integer [] (aCons (mVar 0) aNil)) (mCh leD leD (mVar 1) (mVar 0) (mVar 2))))
def m_is_between : Mf := runF 3 3 b_is_between
def b_Schema_columns : EV → Out (Fl × EV) :=
  (sRet 2 (m2 ixA (m2 ixA (m1 (attrD "Schema" "own_tables") (mVar 0)) (m2 ixA (m1 (attrD "Schema" "spots") (mVar 0)) (mVar 1))) (mC (.int 1))))
def m_Schema_columns : Mf := runF 2 2 b_Schema_columns
def b__law_take : EV → Out (Fl × EV) :=
  (sSeq (sIf (mB (m2 eqD (m2 ixA (mVar 0) (mC (.int 0))) (mC (.int 0)))) (sSeq (sSetV 2 2 (mC (.int 0)))
    (sSeq (sIf (mB (m2 ltD (m2 ixA (mVar 0) (mC (.int 2))) (mN lenD (aCons (m2 ixA (mVar 0) (mC (.int 3))) aNil)))) (sSetV 2 2 (m2 ixA (m2 ixA (mVar 0) (mC (.int 3))) (m2 ixA (mVar 0) (mC (.int 2))))) sNext)
    (sSeq (sSubAdd 0 (mC (.int 2)) (mC (.int 1)))
    (sSeq (sIf (mB (m2 geD (mVar 2) (mC (.int 1000000000000000000)))) (sSubA 0 (mC (.int 0)) (mVar 2)) sNext)
    (sSubA 0 (mC (.int 1)) (m2 modD (m2 addD (m2 addD (m2 mulA (m2 ixA (mVar 0) (mC (.int 1))) (mC (.int 48271))) (m2 modD (mVar 2) (mC (.int 2147483647)))) (m2 mulA (mC (.int 7919)) (m2 ixA (mVar 0) (mC (.int 2))))) (mC (.int 2147483647)))))))) sNext)
    (sSeq (sIf (mB (m2 gtD (m2 ixA (mVar 0) (mC (.int 0))) (mC (.int 0)))) (sSeq (sSetV 2 3 (m2 modD (m2 ixA (mVar 0) (mC (.int 0))) (mVar 1)))
    (sSeq (sSubA 0 (mC (.int 0)) (m2 divD (m2 ixA (mVar 0) (mC (.int 0))) (mVar 1)))
    (sRet 2 (mVar 3)))) sNext)
    (sSeq (sSetV 2 4 (m2 modD (m2 mulA (m2 addD (m2 ixA (mVar 0) (mC (.int 1))) (mC (.int 1))) (mC (.int 39373))) (mC (.int 1000000007))))
    (sSeq (sSetV 2 5 (m2 modD (m2 mulA (m2 modD (m2 mulA (mVar 4) (mVar 4)) (mC (.int 998244353))) (mC (.int 30011))) (mC (.int 998244353))))
    (sSeq (sIf (mB (m2 gtD (mVar 1) (mC (.int 1000000)))) (sRet 2 (m2 modD (m2 addD (m2 mulA (mVar 5) (mC (.int 1000000007))) (mVar 4)) (mVar 1))) sNext)
    (sRet 2 (m2 modD (m2 divD (mVar 5) (mC (.int 7))) (mVar 1))))))))
def m__law_take : Mf := runF 2 6 b__law_take
def b__law_one : EV → Out (Fl × EV) :=
  (sRet 2 (m2 ixA (mVar 1) (mFn m__law_take [] (aCons (mVar 0) (aCons (mN lenD (aCons (mVar 1) aNil)) aNil)))))
def m__law_one : Mf := runF 2 2 b__law_one
def b_is_name : EV → Out (Fl × EV) :=
  (sSeq (sIf (mOr (mNot (mB (mIsi .str (mVar 0)))) (mNot (mB (mCh leD leD (mC (.int 1)) (mN lenD (aCons (mVar 0) aNil)) (mC (.int 8)))))) (sRet 1 (mC (.bool false))) sNext)
    (sRet 1 (mAndV (mM "str" (strB Txt.isascii) (mVar 0) aNil) (mAndV (mM "str" (strB Txt.isalpha) (mVar 0) aNil) (mM "str" (strB Txt.islower) (mVar 0) aNil)))))
def m_is_name : Mf := runF 1 1 b_is_name
def b_is_table : EV → Out (Fl × EV) :=
  (sSeq (sIf (mOr (mNot (mB (mIsi .tuple (mVar 0)))) (mB (m2 neD (mN lenD (aCons (mVar 0) aNil)) (mC (.int 3))))) (sRet 1 (mC (.bool false))) sNext)
    (sSeq (sTup (gT 3 (gsCons (gN 1 1) (gsCons (gN 1 2) (gsCons (gN 1 3) gsNil)))) (mVar 0))
    (sSeq (sIf (mOr (mNot (mB (mFn m_is_name [] (aCons (mVar 1) aNil)))) (mOr (mNot (mB (mIsi .tuple (mVar 2)))) (mNot (mB (mCh leD leD (mC (.int 1)) (mN lenD (aCons (mVar 2) aNil)) (mC (.int 3))))))) (sRet 1 (mC (.bool false))) sNext)
    (sSeq (sIf (mOr (mNot (mB (mN allD (aCons (mLc (iQ (mVar 2)) (gN 0 4) [4] mYes (mFn m_is_name [] (aCons (mVar 4) aNil))) aNil)))) (mB (m2 ltD (m1 lenSetD (mVar 2)) (mN lenD (aCons (mVar 2) aNil))))) (sRet 1 (mC (.bool false))) sNext)
    (sRet 1 (mFn m_is_between [] (aCons (mVar 3) (aCons (mC (.int 1)) (aCons (mN lenD (aCons (mVar 2) aNil)) aNil)))))))))
def m_is_table : Mf := runF 1 5 b_is_table
def b_are_listed : EV → Out (Fl × EV) :=
  (sRet 2 (mAndV (mIsi2 .list .tuple (mVar 0)) (m2 leD (mN lenD (aCons (mVar 0) aNil)) (mVar 1))))
def m_are_listed : Mf := runF 2 2 b_are_listed
def b_Schema___init__ : EV → Out (Fl × EV) :=
  (sSeq (sIf (mNot (mB (mFn m_is_between [] (aCons (mVar 1) (aCons (mC (.int 2)) (aCons (mC (.int 4)) aNil)))))) sBad sNext)
    (sSeq (sIf (mOr (mNot (mB (mFn m_are_listed [] (aCons (mVar 2) (aCons (mC (.int 3)) aNil))))) (mB (m2 eqD (mN lenD (aCons (mVar 2) aNil)) (mC (.int 0))))) sBad sNext)
    (sSeq (sFor (iE (aCons (mVar 2) aNil)) (gT 2 (gsCons (gN 3 3) (gsCons (gN 3 4) gsNil))) (sIf (mNot (mB (mFn m_is_table [] (aCons (mVar 4) aNil)))) sBad sNext))
    (sSeq (sFldO 0 "Schema" "value_count" (mVar 1))
    (sSeq (sFldO 0 "Schema" "own_tables" (mN tupleD (aCons (mVar 2) aNil)))
    (mSpots "Schema" 0 2 3 5 6 7))))))
def m_Schema___init__ : Mf := runF 3 8 b_Schema___init__
def b__law_schema : EV → Out (Fl × EV) :=
  (sRet 1 (mNew m_Schema___init__ "Schema" [] (aCons (m2 ixA (mVar 0) (mC (.str "size"))) (aCons (mN listD (aCons (m2 ixA (mVar 0) (mC (.str "tables"))) aNil)) aNil))))
def m__law_schema : Mf := runF 1 1 b__law_schema
def b__law_world : EV → Out (Fl × EV) :=
  (sSeq (sPar2 2 2 false 3 true (mM "str" splitD (mFn m__law_one [] (aCons (mVar 0) (aCons (mVar 1) aNil))) (aCons (mC (.str " ")) aNil)) (mLst (aCons (mC (.str "t")) (aCons (mC (.str "u")) (aCons (mC (.str "set")) (aCons (mC (.str "old")) (aCons (mC (.str "ab")) (aCons (mC (.str "k")) aNil))))))))
    (sSeq (sSetO 2 4 (mLst aNil))
    (sSeq (sFor (iQ (mSl (mVar 2) (pI (mC (.int 1))) pNo)) (gN 2 5) (sSeq (sSetO 2 6 (mLst (aCons (mC (.str "k")) (aCons (mC (.str "v")) (aCons (mC (.str "w")) (aCons (mC (.str "row")) (aCons (mC (.str "new")) (aCons (mC (.str "t")) aNil))))))))
    (sSeq (sSetV 2 7 (mLc (iR1 (aCons (mN intD (aCons (m2 ixA (mVar 5) (mC (.int 0))) aNil)) aNil)) (gN 0 8) [8] mYes (mMut "list" 6 uPopAt (aCons (mFn m__law_take [] (aCons (mVar 0) (aCons (mN lenD (aCons (mVar 6) aNil)) aNil))) aNil))))
    (sExpr (mMut "list" 4 uAppend (aCons (mTup (aCons (mMut "list" 3 uPopAt (aCons (mFn m__law_take [] (aCons (mVar 0) (aCons (mN lenD (aCons (mVar 3) aNil)) aNil))) aNil)) (aCons (mN tupleD (aCons (mVar 7) aNil)) (aCons (mN intD (aCons (m2 ixA (mVar 5) (mC (.int 1))) aNil)) aNil)))) aNil))))))
    (sFrz 2 4 (sRet 2 (mDisp (((mC (.str "size")), (mN intD (aCons (m2 ixA (mVar 2) (mC (.int 0))) aNil))) :: (((mC (.str "tables")), (mVar 4)) :: (((mC (.str "rules")), (mLst aNil)) :: (((mC (.str "pairs")), (mLst aNil)) :: []))))))))))
def m__law_world : Mf := runF 2 9 b__law_world
def b__law_bag : EV → Out (Fl × EV) :=
  (sRet 1 (mLst (aCons (mC (.int 0)) (aCons (mC (.int 1234567891)) (aCons (mC (.int 0)) (aCons (mLc (iQ (mSl (mVar 0) pNo (pI (mC (.int 63))))) (gN 0 1) [1] mYes (mN absD (aCons (mVar 1) aNil))) aNil))))))
def m__law_bag : Mf := runF 1 2 b__law_bag
end Sh
namespace Sh
open PySem L2 Fr
local macro_rules
  | `(tactic| simp_arith only [$xs,*] $[$l:location]?) => `(tactic| simp -dsimp -implicitDefEqProofs only [Fr.bnd_ok, Fr.bnd_bad, Fr.bnd_ex, Fr.bnd_bnd, Fr.bnd_ite, Fr.e_fzO, Fr.e_fzv, Fr.e_fzo, Fr.e_fzr, Fr.e_fzs, Fr.e_var0, Fr.look_zero, Fr.look_succ, Fr.e_var, Fr.atV_val, Fr.atV_own, Fr.e_c, Fr.e_giv, Fr.e_rvv, Fr.e_rvo, Fr.own1_own, Fr.e_rd1v, Fr.e_rd1r, Fr.e_m2, Fr.e_m1, Fr.toB_bool, Fr.e_mB, Fr.e_and, Fr.e_or, Fr.e_not, Fr.e_andV, Fr.e_orV, Fr.e_notV, Fr.e_ite, Fr.chB_b, Fr.e_ch, Fr.e_anil, Fr.e_acons, Fr.rds_nil, Fr.rds_cons, Fr.e_mN, Fr.valsK_nil, Fr.valsK_cons, Fr.e_tup, Fr.e_lst, Fr.fin_val, Fr.fin_own, Fr.fin_ex, Fr.e_callF, Fr.nd_nil, Fr.nd_val, Fr.nd_ref, Fr.pos_nil, Fr.pos_val, Fr.pos_ref, Fr.arg_val, Fr.own2_own, Fr.arg_ref, Fr.wb_nil, Fr.wb_val, Fr.wb_ref, Fr.e_fn, Fr.rdR_val, Fr.e_meth, Fr.e_ownAt, Fr.tyK_list, Fr.tyK_str, Fr.e_mM, Fr.mutK_some, Fr.e_mut, Fr.e_sl, Fr.e_pno, Fr.toI_int, Fr.e_pI, Fr.itK_some, Fr.seqD_list, Fr.seqD_tuple, Fr.e_iQ, Fr.e_for, Fr.e_lc, Fr.e_gN, Fr.e_gT, Fr.e_gsNil, Fr.e_gsCons, Fr.freeB_none, Fr.freeB_val, Fr.freeB_own, Fr.e_okSet, Fr.e_next, Fr.e_brk, Fr.e_cont, Fr.seqK_next, Fr.seqK_ret, Fr.seqK_brk, Fr.seqK_cont, Fr.e_seq, Fr.e_if, Fr.retK_val, Fr.retK_own, Fr.retK_ref, Fr.e_ret, Fr.e_expr, Fr.e_setV, Fr.ownR_own, Fr.e_setO, Fr.outK_some, Fr.e_sTup, Fr.e_noX, Fr.e_prp, Fr.newO_ok, Fr.e_new, Fr.optK_some, Fr.optK_none, Fr.e_fldO, Fr.idxS_str, Fr.idxR_tup, Fr.idxR_list, Fr.e_idx, Fr.e_get2, Fr.toV_b, Fr.e_inO, Fr.e_frzE, Fr.e_sfrz, Fr.e_fzBt, Fr.e_fzBf, Fr.e_par2, Fr.e_outO, Fr.setR_val, Fr.setR_own, Fr.e_dnil, Fr.e_dcons, Fr.e_disp, Fr.e_isi, Fr.e_isi2, Fr.isiK_int, Fr.isiK_str, Fr.isiK_tup, Fr.isiK_lst, Fr.isiK_non, Fr.isiK2_tup, Fr.isiK2_lst, Fr.isiB_ii, Fr.isiB_bi, Fr.isiB_ti, Fr.isiB_si, Fr.isiB_tt, Fr.isiB_ts, Fr.isiB_ss, Fr.isiB_st, Fr.isiB_lt, Fr.isiB_ll, Fr.isiB_tl, Fr.isiB_tn, Fr.isiB_sn, Fr.one1_val, Fr.enK_list, Fr.enK_tup, Fr.e_iE, Fr.e_iR1, Fr.o_ltI, Fr.o_leI, Fr.o_gtI, Fr.o_geI, Fr.o_eqI, Fr.o_neI, Fr.o_eqS, Fr.o_neS, Fr.o_addI, Fr.o_subI, Fr.o_ixL, Fr.o_ixT, Fr.at0, Fr.at1, Fr.at2, Fr.at3, Fr.o_isNn, Fr.o_lenL, Fr.o_lenT, Fr.o_tupL, Fr.o_tupT, Fr.o_lstL, Fr.o_lstT, Fr.retO_ret, Fr.retO_next, Fr.retO_bad, Fr.retO_ite, Fr.e_run, Fr.outE_nil, Fr.outE_val, Fr.outE_own, Fr.l_map0, Fr.l_map, Fr.l_app0, Fr.l_app1, Fr.l_app, Fr.l_rep0, Fr.l_rep, Fr.l_set0, Fr.l_set, Fr.l_len0, Fr.l_len, Fr.l_tk0, Fr.l_tk, Fr.o_map, Fr.o_bind, Fr.b_and1, Fr.b_and0, Fr.b_or1, Fr.b_or0, Fr.b_andr, Fr.b_not1, Fr.b_not0, Fr.b_nef, Fr.b_net, Fr.o_none1, Fr.o_none2, Fr.size_0, Fr.d_true, Fr.d_false, Fr.b_tt, Fr.b_ft, Fr.wipe_nil, Fr.wipe_one, Fr.back_nil, Fr.back_one, Fr.e_yes, ↓reduceIte, Nat.reduceSub, Nat.reduceAdd, Nat.reduceLeDiff, Nat.reduceLT, Nat.reduceEqDiff, Int.reduceLT, Int.reduceLE, Int.reduceEq, Int.reduceAdd, Int.reduceSub, Int.reduceNeg, reduceCtorEq, $xs,*] $[$l:location]?)
/-! ### data that may be shown and compared -/
structure Gd (w k : Nat) (d : D) : Prop where
  lay : d.canLay0 = true
  sho : d.showable = true
  sh : d.intsShort 13 = true
  wt : d.weight ≤ w
  dp : d.depth ≤ k
structure GdA (w k : Nat) (ds : List D) : Prop where
  lay : PyData.canLayAll0 ds = true
  sho : PyData.showableAll ds = true
  sh : PyData.intsShortAll 13 ds = true
  wt : PyData.weightAll ds ≤ w
  dp : PyData.depthAll ds ≤ k
theorem Gd.mono {w w' k k' : Nat} {d : D} (h : Gd w k d) (hw : w ≤ w') (hk : k ≤ k') : Gd w' k' d := ⟨h.lay, h.sho, h.sh, Nat.le_trans h.wt hw, Nat.le_trans h.dp hk⟩
theorem GdA.mono {w w' k k' : Nat} {d : List D} (h : GdA w k d) (hw : w ≤ w') (hk : k ≤ k') : GdA w' k' d := ⟨h.lay, h.sho, h.sh, Nat.le_trans h.wt hw, Nat.le_trans h.dp hk⟩
theorem GdA.nil : GdA 0 0 [] := ⟨rfl, rfl, rfl, Nat.le_refl _, Nat.le_refl _⟩
theorem GdA.cons {w w' k : Nat} {d : D} {ds : List D} (h : Gd w k d) (t : GdA w' k ds) : GdA (w + 1 + w') k (d :: ds) := by
  refine ⟨?_, ?_, ?_, ?_, ?_⟩
  · rw [PyData.canLayAll0, h.lay, t.lay]; rfl
  · rw [PyData.showableAll, h.sho, t.sho]; rfl
  · rw [PyData.intsShortAll, h.sh, t.sh]; rfl
  · rw [PyData.weightAll]; have := h.wt; have := t.wt; omega
  · rw [PyData.depthAll]; exact Nat.max_le.mpr ⟨h.dp, t.dp⟩
theorem GdA.all {w k : Nat} : ∀ {ds : List D}, (∀ d ∈ ds, Gd w k d) → GdA (ds.length * (w + 1)) k ds
  | [], _ => GdA.nil.mono (Nat.zero_le _) (Nat.zero_le _)
  | d :: ds, h => (GdA.cons (h d (.head _)) (GdA.all fun x hx => h x (.tail _ hx))).mono (by rw [List.length_cons, Nat.succ_mul]; omega) (Nat.le_refl _)
theorem GdA.upto {w k n : Nat} {ds : List D} (h : ∀ d ∈ ds, Gd w k d) (hl : ds.length ≤ n) : GdA (n * (w + 1)) k ds := (GdA.all h).mono (Nat.mul_le_mul_right _ hl) (Nat.le_refl _)
theorem gd_tup {w k : Nat} {ds : List D} (h : GdA w k ds) : Gd w (k + 1) (.tuple ds) := ⟨by rw [PyData.canLay0]; exact h.lay, by rw [PyData.showable]; exact h.sho, by rw [PyData.intsShort]; exact h.sh, by rw [PyData.weight]; exact h.wt, by rw [PyData.depth]; exact Nat.succ_le_succ h.dp⟩
theorem gd_lst {w k : Nat} {ds : List D} (h : GdA w k ds) : Gd w (k + 1) (.list ds) := ⟨by rw [PyData.canLay0]; exact h.lay, by rw [PyData.showable]; exact h.sho, by rw [PyData.intsShort]; exact h.sh, by rw [PyData.weight]; exact h.wt, by rw [PyData.depth]; exact Nat.succ_le_succ h.dp⟩
theorem small_ints : ∀ n, n < 100 → (PyData.shown (.int (n : Nat))).length ≤ 13 ∧ PyData.weight (.int (n : Nat)) ≤ 7 ∧ (PyData.showable (.int (n : Nat))) = true := by decide +kernel
theorem gd_nat {n k : Nat} (h : n < 100) : Gd 7 k (.int (n : Nat)) := by
  obtain ⟨h1, h2, h3⟩ := small_ints n h
  exact ⟨rfl, h3, by rw [PyData.intsShort]; exact decide_eq_true h1, h2, Nat.zero_le _⟩
theorem gd_str {z : Str} {n k : Nat} (h : PyData.strOk z = true) (hl : z.cps.size ≤ n) : Gd n k (.str z) := ⟨by rw [PyData.canLay0]; exact h, rfl, rfl, by rw [PyData.weight]; exact hl, Nat.zero_le _⟩
theorem gd_shaped {w k : Nat} {d : D} (h : Gd w k d) (hk : k ≤ 64) : SeqAt.shaped d = true := by
  unfold SeqAt.shaped; rw [h.lay, decide_eq_true (Nat.le_trans h.dp hk)]; rfl
theorem eq_self {w k : Nat} {d : D} (h : Gd w k d) (hk : k ≤ 64) : eqD d d = some (.val (.bool true)) := by
  have e0 : eqD0 d d = some (.val (.bool true)) := by
    unfold eqD0
    rw [gd_shaped h hk, SeqAt.eqv_refl d h.lay]; rfl
  unfold eqD
  rw [e0]
  cases d <;> first | rfl | simp [eqS]
theorem repr_gd {w k : Nat} {d : D} (h : Gd w k d) (hw : w ≤ 2 ^ 20) (hk : k ≤ 64) : reprA [d] = some (.val (.str d.shown)) := by
  have hl : PyData.layable0 d = true := by
    unfold PyData.layable0
    rw [h.lay, decide_eq_true (Nat.le_trans h.dp hk), decide_eq_true (Nat.le_trans h.wt hw)]; rfl
  have hs := PyData.shown_fits_of_layable0 (B := 13) (by decide) (by decide) hl h.sh
  show Option.or (reprD1 d) _ = _
  unfold reprD1
  rw [h.lay, h.sho, decide_eq_true (Nat.le_trans h.dp hk), decide_eq_true hs]; rfl
theorem alike_eq {w k : Nat} {d : D} (h : Gd w k d) (hw : w ≤ 2 ^ 20) (hk : k ≤ 64) : m__law_alike [some (.val d), some (.val d)] = .ok (.val (.bool true), [some (.val d), some (.val d)]) := by
  simp_arith only [m__law_alike, b__law_alike, eq_self h hk, repr_gd h hw hk, decide_true]
theorem alike_own {w k : Nat} {d : D} (h : Gd w k d) (hw : w ≤ 2 ^ 20) (hk : k ≤ 64) : m__law_alike [some (.own d), some (.val d)] = .ok (.val (.bool true), [some (.own d), some (.val d)]) := by
  simp_arith only [m__law_alike, b__law_alike, eq_self h hk, repr_gd h hw hk, decide_true]
/-! ### tables, worlds, schemas -/
structure Tb where
  name : Str
  cols : List Str
  keys : Nat
structure Wd where
  size : Nat
  tabs : List Tb
def tbNames : List Str := ["t", "u", "set", "old", "ab", "k"]
def coNames : List Str := ["k", "v", "w", "row", "new", "t"]
structure Tb.Ok (t : Tb) : Prop where
  nm : t.name ∈ tbNames
  co : ∀ c ∈ t.cols, c ∈ coNames
  nd : t.cols.Nodup
  l1 : 1 ≤ t.cols.length
  l3 : t.cols.length ≤ 3
  k1 : 1 ≤ t.keys
  k2 : t.keys ≤ t.cols.length
structure Wd.Ok (w : Wd) : Prop where
  s2 : 2 ≤ w.size
  s4 : w.size ≤ 4
  t1 : 1 ≤ w.tabs.length
  t3 : w.tabs.length ≤ 3
  tb : ∀ t ∈ w.tabs, t.Ok
  nd : (w.tabs.map (·.name)).Nodup
def tbD (t : Tb) : D := .tuple [.str t.name, .tuple (t.cols.map .str), .int t.keys]
def wdD (w : Wd) : D := .dict [(.str "size", .int w.size), (.str "tables", .list (w.tabs.map tbD)), (.str "rules", .list []), (.str "pairs", .list [])]
def scD (w : Wd) : D := .dict [(.none, .str "Schema"), (.str "value_count", .int w.size), (.str "own_tables", .tuple (w.tabs.map tbD)), (.str "spots", .dict (spotsD (w.tabs.map (·.name)) 0))]
theorem attr_vc (w : Wd) : attrD "Schema" "value_count" (scD w) = some (.val (.int w.size)) := rfl
theorem attr_ot (w : Wd) : attrD "Schema" "own_tables" (scD w) = some (.val (.tuple (w.tabs.map tbD))) := rfl
theorem attr_sp (w : Wd) : attrD "Schema" "spots" (scD w) = some (.val (.dict (spotsD (w.tabs.map (·.name)) 0))) := rfl
/-- the table of a name -/
theorem spots_look : ∀ (ts : List Tb) (i : Nat) (j : Nat) (t : Tb), (ts.map (·.name)).Nodup → ts[j]? = some t → lookK (spotsD (ts.map (·.name)) i) (.inr t.name) = some (.int ((i + j : Nat) : Int))
  | [], i, j, t, _, h => by simp at h
  | s :: ts, i, 0, t, _, h => by
    simp at h; subst h
    simp [spotsD, lookK, keyD]
  | s :: ts, i, j + 1, t, hn, h => by
    have h2 : ts[j]? = some t := by simpa using h
    rw [List.map_cons, List.nodup_cons] at hn
    have hne : ¬ (s.name = t.name) := fun e => hn.1 (e ▸ List.mem_map_of_mem (List.mem_of_getElem? h2))
    have e := spots_look ts (i + 1) j t hn.2 h2
    show (if keyD (.str s.name) = some (.inr t.name) then _ else lookK (spotsD (ts.map (·.name)) (i + 1)) (.inr t.name)) = _
    rw [if_neg (fun z => hne (by injection z with z; injection z)), e]
    congr 3; omega
theorem spots_dict (ns : List Str) (i : Nat) (z : Str) : dgD (.dict (spotsD ns i)) (.str z) = some (lookK (spotsD ns i) (.inr z)) := by
  cases ns <;> rfl
theorem atI_get {α : Type} {xs : List α} {j : Nat} {x : α} (h : xs[j]? = some x) : atI xs (j : Int) = some x := by
  have hl := (List.getElem?_eq_some_iff.mp h).1
  unfold atI ixN
  rw [if_pos (by omega), if_pos (by omega)]
  simpa using h
theorem ix_spots {w : Wd} (ok : w.Ok) {t : Tb} {j : Nat} (h : w.tabs[j]? = some t) : ixA (.dict (spotsD (w.tabs.map (·.name)) 0)) (.str t.name) = some (.val (.int (j : Nat))) := by
  have e := spots_look w.tabs 0 j t ok.nd h
  rw [Nat.zero_add] at e
  unfold ixA ixK
  rw [spots_dict, e]
  cases w.tabs.map (·.name) <;> rfl
theorem columns_eq {w : Wd} (ok : w.Ok) {t : Tb} (h : t ∈ w.tabs) : m_Schema_columns [some (.val (scD w)), some (.val (.str t.name))] = .ok (.val (.tuple (t.cols.map .str)), [some (.val (scD w)), some (.val (.str t.name))]) := by
  obtain ⟨j, hj⟩ := List.mem_iff_getElem?.mp h
  have e : atI (w.tabs.map tbD) (j : Int) = some (tbD t) := atI_get (by rw [List.getElem?_map, hj]; rfl)
  simp_arith only [m_Schema_columns, b_Schema_columns, attr_ot, attr_sp, ix_spots ok hj, e]
  simp only [tbD, Fr.bnd_ok, Fr.bnd_bad, Fr.bnd_ex, Fr.bnd_bnd, Fr.bnd_ite, Fr.e_fzO, Fr.e_fzv, Fr.e_fzo, Fr.e_fzr, Fr.e_fzs, Fr.e_var0, Fr.look_zero, Fr.look_succ, Fr.e_var, Fr.atV_val, Fr.atV_own, Fr.e_c, Fr.e_giv, Fr.e_rvv, Fr.e_rvo, Fr.own1_own, Fr.e_rd1v, Fr.e_rd1r, Fr.e_m2, Fr.e_m1, Fr.toB_bool, Fr.e_mB, Fr.e_and, Fr.e_or, Fr.e_not, Fr.e_andV, Fr.e_orV, Fr.e_notV, Fr.e_ite, Fr.chB_b, Fr.e_ch, Fr.e_anil, Fr.e_acons, Fr.rds_nil, Fr.rds_cons, Fr.e_mN, Fr.valsK_nil, Fr.valsK_cons, Fr.e_tup, Fr.e_lst, Fr.fin_val, Fr.fin_own, Fr.fin_ex, Fr.e_callF, Fr.nd_nil, Fr.nd_val, Fr.nd_ref, Fr.pos_nil, Fr.pos_val, Fr.pos_ref, Fr.arg_val, Fr.own2_own, Fr.arg_ref, Fr.wb_nil, Fr.wb_val, Fr.wb_ref, Fr.e_fn, Fr.rdR_val, Fr.e_meth, Fr.e_ownAt, Fr.tyK_list, Fr.tyK_str, Fr.e_mM, Fr.mutK_some, Fr.e_mut, Fr.e_sl, Fr.e_pno, Fr.toI_int, Fr.e_pI, Fr.itK_some, Fr.seqD_list, Fr.seqD_tuple, Fr.e_iQ, Fr.e_for, Fr.e_lc, Fr.e_gN, Fr.e_gT, Fr.e_gsNil, Fr.e_gsCons, Fr.freeB_none, Fr.freeB_val, Fr.freeB_own, Fr.e_okSet, Fr.e_next, Fr.e_brk, Fr.e_cont, Fr.seqK_next, Fr.seqK_ret, Fr.seqK_brk, Fr.seqK_cont, Fr.e_seq, Fr.e_if, Fr.retK_val, Fr.retK_own, Fr.retK_ref, Fr.e_ret, Fr.e_expr, Fr.e_setV, Fr.ownR_own, Fr.e_setO, Fr.outK_some, Fr.e_sTup, Fr.e_noX, Fr.e_prp, Fr.newO_ok, Fr.e_new, Fr.optK_some, Fr.optK_none, Fr.e_fldO, Fr.idxS_str, Fr.idxR_tup, Fr.idxR_list, Fr.e_idx, Fr.e_get2, Fr.toV_b, Fr.e_inO, Fr.e_frzE, Fr.e_sfrz, Fr.e_fzBt, Fr.e_fzBf, Fr.e_par2, Fr.e_outO, Fr.setR_val, Fr.setR_own, Fr.e_dnil, Fr.e_dcons, Fr.e_disp, Fr.e_isi, Fr.e_isi2, Fr.isiK_int, Fr.isiK_str, Fr.isiK_tup, Fr.isiK_lst, Fr.isiK_non, Fr.isiK2_tup, Fr.isiK2_lst, Fr.isiB_ii, Fr.isiB_bi, Fr.isiB_ti, Fr.isiB_si, Fr.isiB_tt, Fr.isiB_ts, Fr.isiB_ss, Fr.isiB_st, Fr.isiB_lt, Fr.isiB_ll, Fr.isiB_tl, Fr.isiB_tn, Fr.isiB_sn, Fr.one1_val, Fr.enK_list, Fr.enK_tup, Fr.e_iE, Fr.e_iR1, Fr.o_ltI, Fr.o_leI, Fr.o_gtI, Fr.o_geI, Fr.o_eqI, Fr.o_neI, Fr.o_eqS, Fr.o_neS, Fr.o_addI, Fr.o_subI, Fr.o_ixL, Fr.o_ixT, Fr.at0, Fr.at1, Fr.at2, Fr.at3, Fr.o_isNn, Fr.o_lenL, Fr.o_lenT, Fr.o_tupL, Fr.o_tupT, Fr.o_lstL, Fr.o_lstT, Fr.retO_ret, Fr.retO_next, Fr.retO_bad, Fr.retO_ite, Fr.e_run, Fr.outE_nil, Fr.outE_val, Fr.outE_own, Fr.l_map0, Fr.l_map, Fr.l_app0, Fr.l_app1, Fr.l_app, Fr.l_rep0, Fr.l_rep, Fr.l_set0, Fr.l_set, Fr.l_len0, Fr.l_len, Fr.l_tk0, Fr.l_tk, Fr.o_map, Fr.o_bind, Fr.b_and1, Fr.b_and0, Fr.b_or1, Fr.b_or0, Fr.b_andr, Fr.b_not1, Fr.b_not0, Fr.b_nef, Fr.b_net, Fr.o_none1, Fr.o_none2, Fr.size_0, Fr.d_true, Fr.d_false, Fr.b_tt, Fr.b_ft, Fr.wipe_nil, Fr.wipe_one, Fr.back_nil, Fr.back_one, Fr.e_yes]
end Sh
namespace Sh
open PySem L2 Fr
local macro_rules
  | `(tactic| simp_arith only [$xs,*] $[$l:location]?) => `(tactic| simp -dsimp -implicitDefEqProofs only [Fr.bnd_ok, Fr.bnd_bad, Fr.bnd_ex, Fr.bnd_bnd, Fr.bnd_ite, Fr.e_fzO, Fr.e_fzv, Fr.e_fzo, Fr.e_fzr, Fr.e_fzs, Fr.e_var0, Fr.look_zero, Fr.look_succ, Fr.e_var, Fr.atV_val, Fr.atV_own, Fr.e_c, Fr.e_giv, Fr.e_rvv, Fr.e_rvo, Fr.own1_own, Fr.e_rd1v, Fr.e_rd1r, Fr.e_m2, Fr.e_m1, Fr.toB_bool, Fr.e_mB, Fr.e_and, Fr.e_or, Fr.e_not, Fr.e_andV, Fr.e_orV, Fr.e_notV, Fr.e_ite, Fr.chB_b, Fr.e_ch, Fr.e_anil, Fr.e_acons, Fr.rds_nil, Fr.rds_cons, Fr.e_mN, Fr.valsK_nil, Fr.valsK_cons, Fr.e_tup, Fr.e_lst, Fr.fin_val, Fr.fin_own, Fr.fin_ex, Fr.e_callF, Fr.nd_nil, Fr.nd_val, Fr.nd_ref, Fr.pos_nil, Fr.pos_val, Fr.pos_ref, Fr.arg_val, Fr.own2_own, Fr.arg_ref, Fr.wb_nil, Fr.wb_val, Fr.wb_ref, Fr.e_fn, Fr.rdR_val, Fr.e_meth, Fr.e_ownAt, Fr.tyK_list, Fr.tyK_str, Fr.e_mM, Fr.mutK_some, Fr.e_mut, Fr.e_sl, Fr.e_pno, Fr.toI_int, Fr.e_pI, Fr.itK_some, Fr.seqD_list, Fr.seqD_tuple, Fr.e_iQ, Fr.e_for, Fr.e_lc, Fr.e_gN, Fr.e_gT, Fr.e_gsNil, Fr.e_gsCons, Fr.freeB_none, Fr.freeB_val, Fr.freeB_own, Fr.e_okSet, Fr.e_next, Fr.e_brk, Fr.e_cont, Fr.seqK_next, Fr.seqK_ret, Fr.seqK_brk, Fr.seqK_cont, Fr.e_seq, Fr.e_if, Fr.retK_val, Fr.retK_own, Fr.retK_ref, Fr.e_ret, Fr.e_expr, Fr.e_setV, Fr.ownR_own, Fr.e_setO, Fr.outK_some, Fr.e_sTup, Fr.e_noX, Fr.e_prp, Fr.newO_ok, Fr.e_new, Fr.optK_some, Fr.optK_none, Fr.e_fldO, Fr.idxS_str, Fr.idxR_tup, Fr.idxR_list, Fr.e_idx, Fr.e_get2, Fr.toV_b, Fr.e_inO, Fr.e_frzE, Fr.e_sfrz, Fr.e_fzBt, Fr.e_fzBf, Fr.e_par2, Fr.e_outO, Fr.setR_val, Fr.setR_own, Fr.e_dnil, Fr.e_dcons, Fr.e_disp, Fr.e_isi, Fr.e_isi2, Fr.isiK_int, Fr.isiK_str, Fr.isiK_tup, Fr.isiK_lst, Fr.isiK_non, Fr.isiK2_tup, Fr.isiK2_lst, Fr.isiB_ii, Fr.isiB_bi, Fr.isiB_ti, Fr.isiB_si, Fr.isiB_tt, Fr.isiB_ts, Fr.isiB_ss, Fr.isiB_st, Fr.isiB_lt, Fr.isiB_ll, Fr.isiB_tl, Fr.isiB_tn, Fr.isiB_sn, Fr.one1_val, Fr.enK_list, Fr.enK_tup, Fr.e_iE, Fr.e_iR1, Fr.o_ltI, Fr.o_leI, Fr.o_gtI, Fr.o_geI, Fr.o_eqI, Fr.o_neI, Fr.o_eqS, Fr.o_neS, Fr.o_addI, Fr.o_subI, Fr.o_ixL, Fr.o_ixT, Fr.at0, Fr.at1, Fr.at2, Fr.at3, Fr.o_isNn, Fr.o_lenL, Fr.o_lenT, Fr.o_tupL, Fr.o_tupT, Fr.o_lstL, Fr.o_lstT, Fr.retO_ret, Fr.retO_next, Fr.retO_bad, Fr.retO_ite, Fr.e_run, Fr.outE_nil, Fr.outE_val, Fr.outE_own, Fr.l_map0, Fr.l_map, Fr.l_app0, Fr.l_app1, Fr.l_app, Fr.l_rep0, Fr.l_rep, Fr.l_set0, Fr.l_set, Fr.l_len0, Fr.l_len, Fr.l_tk0, Fr.l_tk, Fr.o_map, Fr.o_bind, Fr.b_and1, Fr.b_and0, Fr.b_or1, Fr.b_or0, Fr.b_andr, Fr.b_not1, Fr.b_not0, Fr.b_nef, Fr.b_net, Fr.o_none1, Fr.o_none2, Fr.size_0, Fr.d_true, Fr.d_false, Fr.b_tt, Fr.b_ft, Fr.wipe_nil, Fr.wipe_one, Fr.back_nil, Fr.back_one, Fr.e_yes, ↓reduceIte, Nat.reduceSub, Nat.reduceAdd, Nat.reduceLeDiff, Nat.reduceLT, Nat.reduceEqDiff, Int.reduceLT, Int.reduceLE, Int.reduceEq, Int.reduceAdd, Int.reduceSub, Int.reduceNeg, reduceCtorEq, $xs,*] $[$l:location]?)
theorem integer_eq (n : Int) : m_is_integer [some (.val (.int n))] = .ok (.val (.bool true), [some (.val (.int n))]) := by
  simp_arith only [m_is_integer, b_is_integer]
theorem between_eq (n a b : Int) : m_is_between [some (.val (.int n)), some (.val (.int a)), some (.val (.int b))] = .ok (.val (.bool (decide (a ≤ n ∧ n ≤ b))), [some (.val (.int n)), some (.val (.int a)), some (.val (.int b))]) := by
  simp_arith only [m_is_between, b_is_between, integer_eq, decide_eq_true_eq]
  split <;> simp [*]
def nmB (z : Str) : Bool := decide (1 ≤ z.length) && (decide (z.length ≤ 8) && (Txt.isascii z && (Txt.isalpha z && Txt.islower z)))
theorem o_lenS {z : Str} (h : z.length ≤ sizeLine) : lenD [.str z] = some (.val (.int z.length)) := by simp only [lenD, one, lenD1, if_pos h]
theorem name_eq {z : Str} (h : nmB z = true) : m_is_name [some (.val (.str z))] = .ok (.val (.bool true), [some (.val (.str z))]) := by
  unfold nmB at h
  simp only [Bool.and_eq_true, decide_eq_true_eq] at h
  obtain ⟨h1, h2, h3, h4, h5⟩ := h
  have hs : z.length ≤ sizeLine := by rw [sizeLine_eq]; omega
  simp_arith only [m_is_name, b_is_name, o_lenS hs, show ((1 : Int) ≤ (z.length : Nat)) = True from eq_true (by omega), show (((z.length : Nat) : Int) ≤ 8) = True from eq_true (by omega), decide_true, strB, h3, h4, h5]
theorem names_ok : (∀ z ∈ tbNames, nmB z = true) ∧ (∀ z ∈ coNames, nmB z = true) := by decide +kernel
theorem listed_eq {ds : List D} (n : Nat) (h : ds.length ≤ n) : m_are_listed [some (.val (.list ds)), some (.val (.int n))] = .ok (.val (.bool true), [some (.val (.list ds)), some (.val (.int n))]) := by
  simp_arith only [m_are_listed, b_are_listed, show (((ds.length : Nat) : Int) ≤ (n : Nat)) = True from eq_true (by omega), decide_true]
theorem difs_nodup : ∀ (n : Nat) (ys : List Str), ys.length = n → ys.Nodup → (difs ys) = ys
  | 0, ys, h, _ => by cases ys with
    | nil => rfl
    | cons _ _ => cases h
  | n + 1, ys, h, hn => by
    obtain ⟨zs, y, rfl⟩ : ∃ zs y, ys = zs ++ [y] := by
      have hne : ys ≠ [] := fun z => by subst z; cases h
      exact ⟨ys.dropLast, ys.getLast hne, (List.dropLast_concat_getLast hne).symm⟩
    rw [List.nodup_append] at hn
    have hz : zs.length = n := by simpa using h
    rw [difs_snoc, difs_nodup n zs hz hn.1, if_neg]
    intro hx
    rw [List.any_eq_true] at hx
    obtain ⟨q, h1, h2⟩ := hx
    exact hn.2.2 q h1 y (by simp) (by simpa using h2)
theorem strsD_map : ∀ ys : List Str, strsD (ys.map PyData.str) = some ys
  | [] => rfl
  | y :: ys => by rw [List.map_cons, strsD, strsD_map ys]; rfl
theorem lenSet_cols {ys : List Str} (h : ys.Nodup) (hl : ys.length ≤ 50) : lenSetD (.tuple (ys.map .str)) = some (.val (.int ys.length)) := by
  simp only [lenSetD, strsD_map, if_pos hl, difs_nodup _ ys rfl h]
theorem table_eq {t : Tb} (ok : t.Ok) : m_is_table [some (.val (tbD t))] = .ok (.val (.bool true), [some (.val (tbD t))]) := by
  refine W.eq ?_
  have hk : (1 : Int) ≤ (t.cols.length : Nat) := by have := ok.l1; omega
  have hk2 : ((t.cols.length : Nat) : Int) ≤ 3 := by have := ok.l3; omega
  have l3 := ok.l3
  unfold tbD
  simp_arith only [m_is_table, b_is_table, name_eq (names_ok.1 _ ok.nm), List.length_map, hk, hk2, decide_true]
  refine w_retb (w_lcM t.cols PyData.str (fun _ => .bool true) (by omega) (fun z hz => ?_) ?_)
  · simp_arith only [lcStep, name_eq (names_ok.2 _ (ok.co z hz))]
  · have e1 : (t.cols.all fun _ => true) = true := by simp
    simp_arith only [o_allM, e1, lenSet_cols ok.nd (by omega), List.length_map, Int.lt_irrefl, decide_false, Bool.false_eq_true, between_eq]
    refine .ok ?_
    have := ok.k1; have := ok.k2
    rw [decide_eq_true (by omega)]
theorem init_eq {w : Wd} (ok : w.Ok) : m_Schema___init__ [some (.own (.dict [(.none, .str "Schema")])), some (.val (.int w.size)), some (.val (.list (w.tabs.map tbD)))] = .ok (.val .none, [some (.own (scD w)), some (.val (.int w.size)), some (.val (.list (w.tabs.map tbD)))]) := by
  refine W.eq ?_
  have h1 : ((2 : Int) ≤ w.size ∧ (w.size : Int) ≤ 4) := by have := ok.s2; have := ok.s4; omega
  have h2 : ((w.tabs.length : Nat) : Int) ≠ 0 := by have := ok.t1; omega
  have h3 := listed_eq (ds := w.tabs.map tbD) 3 (by rw [List.length_map]; exact ok.t3)
  simp only [Int.cast_ofNat_Int] at h3
  simp_arith only [m_Schema___init__, b_Schema___init__, between_eq, h1, decide_true, and_self, h3, List.length_map, h2, decide_false, Bool.false_eq_true]
  refine w_retb (w_forI (fun _ ρ => ∃ s3 s4, ρ = [some (.own (.dict [(.none, .str "Schema")])), some (.val (.int w.size)), some (.val (.list (w.tabs.map tbD))), s3, s4, none, none, none]) ⟨_, _, rfl⟩ (fun j d ρ1 hd hi => ?_) (fun ρ1 hi => ?_))
  · obtain ⟨s3, s4, rfl⟩ := hi
    obtain ⟨t, ht, rfl⟩ := enum_get hd
    simp_arith only [table_eq (ok.tb t (List.mem_of_getElem? ht))]
    exact .ok ⟨_, _, rfl⟩
  · obtain ⟨s3, s4, rfl⟩ := hi
    have e1 : ∀ (x : D), putO "Schema" "value_count" x (.dict [(.none, .str "Schema")]) = some (.dict [(.none, .str "Schema"), (.str "value_count", x)]) := fun x => rfl
    have e2 : ∀ (x y : D), putO "Schema" "own_tables" y (.dict [(.none, .str "Schema"), (.str "value_count", x)]) = some (.dict [(.none, .str "Schema"), (.str "value_count", x), (.str "own_tables", y)]) := fun x y => rfl
    simp_arith only [e1, e2]
    have e3 : ∀ ts : List Tb, tnames (ts.map tbD) = some (ts.map (·.name)) := by
      intro ts
      induction ts with
      | nil => rfl
      | cons t ts ih => rw [List.map_cons, List.map_cons]; show Option.map _ (tnames (ts.map tbD)) = _; rw [ih]; rfl
    have hl := ok.t3
    unfold mSpots
    simp only [ownAt, List.getElem?_cons_zero, List.getElem?_cons_succ, seqOf, Option.bind_some, e3]
    rw [if_pos ⟨trivial, ok.nd, by rw [List.length_map]; omega, by simp, rfl, by decide, by decide, by simp, by simp⟩]
    simp only [forg, List.foldl_cons, List.foldl_nil, Fr.bnd_ok, Fr.bnd_bad, Fr.bnd_ex, Fr.bnd_bnd, Fr.bnd_ite, Fr.e_fzO, Fr.e_fzv, Fr.e_fzo, Fr.e_fzr, Fr.e_fzs, Fr.e_var0, Fr.look_zero, Fr.look_succ, Fr.e_var, Fr.atV_val, Fr.atV_own, Fr.e_c, Fr.e_giv, Fr.e_rvv, Fr.e_rvo, Fr.own1_own, Fr.e_rd1v, Fr.e_rd1r, Fr.e_m2, Fr.e_m1, Fr.toB_bool, Fr.e_mB, Fr.e_and, Fr.e_or, Fr.e_not, Fr.e_andV, Fr.e_orV, Fr.e_notV, Fr.e_ite, Fr.chB_b, Fr.e_ch, Fr.e_anil, Fr.e_acons, Fr.rds_nil, Fr.rds_cons, Fr.e_mN, Fr.valsK_nil, Fr.valsK_cons, Fr.e_tup, Fr.e_lst, Fr.fin_val, Fr.fin_own, Fr.fin_ex, Fr.e_callF, Fr.nd_nil, Fr.nd_val, Fr.nd_ref, Fr.pos_nil, Fr.pos_val, Fr.pos_ref, Fr.arg_val, Fr.own2_own, Fr.arg_ref, Fr.wb_nil, Fr.wb_val, Fr.wb_ref, Fr.e_fn, Fr.rdR_val, Fr.e_meth, Fr.e_ownAt, Fr.tyK_list, Fr.tyK_str, Fr.e_mM, Fr.mutK_some, Fr.e_mut, Fr.e_sl, Fr.e_pno, Fr.toI_int, Fr.e_pI, Fr.itK_some, Fr.seqD_list, Fr.seqD_tuple, Fr.e_iQ, Fr.e_for, Fr.e_lc, Fr.e_gN, Fr.e_gT, Fr.e_gsNil, Fr.e_gsCons, Fr.freeB_none, Fr.freeB_val, Fr.freeB_own, Fr.e_okSet, Fr.e_next, Fr.e_brk, Fr.e_cont, Fr.seqK_next, Fr.seqK_ret, Fr.seqK_brk, Fr.seqK_cont, Fr.e_seq, Fr.e_if, Fr.retK_val, Fr.retK_own, Fr.retK_ref, Fr.e_ret, Fr.e_expr, Fr.e_setV, Fr.ownR_own, Fr.e_setO, Fr.outK_some, Fr.e_sTup, Fr.e_noX, Fr.e_prp, Fr.newO_ok, Fr.e_new, Fr.optK_some, Fr.optK_none, Fr.e_fldO, Fr.idxS_str, Fr.idxR_tup, Fr.idxR_list, Fr.e_idx, Fr.e_get2, Fr.toV_b, Fr.e_inO, Fr.e_frzE, Fr.e_sfrz, Fr.e_fzBt, Fr.e_fzBf, Fr.e_par2, Fr.e_outO, Fr.setR_val, Fr.setR_own, Fr.e_dnil, Fr.e_dcons, Fr.e_disp, Fr.e_isi, Fr.e_isi2, Fr.isiK_int, Fr.isiK_str, Fr.isiK_tup, Fr.isiK_lst, Fr.isiK_non, Fr.isiK2_tup, Fr.isiK2_lst, Fr.isiB_ii, Fr.isiB_bi, Fr.isiB_ti, Fr.isiB_si, Fr.isiB_tt, Fr.isiB_ts, Fr.isiB_ss, Fr.isiB_st, Fr.isiB_lt, Fr.isiB_ll, Fr.isiB_tl, Fr.isiB_tn, Fr.isiB_sn, Fr.one1_val, Fr.enK_list, Fr.enK_tup, Fr.e_iE, Fr.e_iR1, Fr.o_ltI, Fr.o_leI, Fr.o_gtI, Fr.o_geI, Fr.o_eqI, Fr.o_neI, Fr.o_eqS, Fr.o_neS, Fr.o_addI, Fr.o_subI, Fr.o_ixL, Fr.o_ixT, Fr.at0, Fr.at1, Fr.at2, Fr.at3, Fr.o_isNn, Fr.o_lenL, Fr.o_lenT, Fr.o_tupL, Fr.o_tupT, Fr.o_lstL, Fr.o_lstT, Fr.retO_ret, Fr.retO_next, Fr.retO_bad, Fr.retO_ite, Fr.e_run, Fr.outE_nil, Fr.outE_val, Fr.outE_own, Fr.l_map0, Fr.l_map, Fr.l_app0, Fr.l_app1, Fr.l_app, Fr.l_rep0, Fr.l_rep, Fr.l_set0, Fr.l_set, Fr.l_len0, Fr.l_len, Fr.l_tk0, Fr.l_tk, Fr.o_map, Fr.o_bind, Fr.b_and1, Fr.b_and0, Fr.b_or1, Fr.b_or0, Fr.b_andr, Fr.b_not1, Fr.b_not0, Fr.b_nef, Fr.b_net, Fr.o_none1, Fr.o_none2, Fr.size_0, Fr.d_true, Fr.d_false, Fr.b_tt, Fr.b_ft, Fr.wipe_nil, Fr.wipe_one, Fr.back_nil, Fr.back_one, Fr.e_yes, ↓reduceIte]
    exact .ok rfl
theorem ix_size (w : Wd) : ixA (wdD w) (.str "size") = some (.val (.int w.size)) := rfl
theorem ix_tabs (w : Wd) : ixA (wdD w) (.str "tables") = some (.val (.list (w.tabs.map tbD))) := rfl
theorem schema_eq {w : Wd} (ok : w.Ok) : m__law_schema [some (.val (wdD w))] = .ok (.own (scD w), [some (.val (wdD w))]) := by
  simp_arith only [m__law_schema, b__law_schema, ix_size, ix_tabs, init_eq ok]
end Sh
namespace Fr
open PySem L2
theorem take_ok {n : Nat} {d : D} {many : Int} {Q : Rv × EV → Prop} (h : Bg n d) (hn : n ≤ 1000000) (h0 : 0 < many) (h1 : many < 2 ^ 100) (q : ∀ v d', 0 ≤ v → v < many → Bg (n + 1) d' → Q (.val (.int v), [some (.own d'), some (.val (.int many))])) : W (m_take [some (.own d), some (.val (.int many))]) Q := by
  obtain ⟨a, b, c, cs, rfl, ha, hb, hb2, hc, hc2, hcs⟩ := h
  unfold m_take
  refine w_run rfl ?_
  unfold b_take bagD
  dsimp only [List.replicate, List.cons_append, List.nil_append, Nat.reduceSub]
  refine w_seq ?_
  refine W.mono (Q := fun x => x.1 = .next ∧ ∃ (a b c : Int) (t : Option Sl), x.2 = [some (.own (.list [.int a, .int b, .int c, .list (cs.map PyData.int)])), some (.val (.int many)), t, none, none, none] ∧ 0 ≤ a ∧ 0 ≤ b ∧ b < 2147483647 ∧ 0 ≤ c ∧ c ≤ (n + 1 : Nat)) ?_ ?_
  · repeat ((first | (with_reducible refine w_varE ?_; refine ⟨_, rfl, ?_⟩) | (with_reducible refine w_varF ?_; refine ⟨⟨_, rfl⟩, ?_⟩) | (with_reducible refine w_seq ?_) | (with_reducible refine w_if ?_) | (with_reducible refine w_and ?_) | (with_reducible refine w_or ?_) | (with_reducible refine w_not ?_) | (with_reducible refine w_ite ?_) | (with_reducible refine w_expr ?_) | (with_reducible refine w_ret ?_) | (with_reducible refine w_setV ?_) | (with_reducible refine w_setO ?_) | (with_reducible refine w_m2 ?_) | (with_reducible refine w_m1 ?_) | (with_reducible refine w_mB ?_) | (with_reducible refine w_mCh ?_) | (with_reducible refine w_andV ?_) | (with_reducible refine w_orV ?_) | (with_reducible refine w_notV ?_) | (with_reducible refine w_c ?_) | (with_reducible refine w_acons ?_) | (with_reducible refine w_anil ?_) | (with_reducible refine w_n ?_) | (with_reducible refine w_lst ?_) | (with_reducible refine w_tup ?_) | (with_reducible refine w_next ?_) | (with_reducible refine w_brk ?_) | (with_reducible refine w_cont ?_) | (with_reducible refine w_iR1 ?_) | (with_reducible refine w_iR2 ?_) | (with_reducible refine w_iQ ?_) | (with_reducible refine w_par2 ?_) | (with_reducible refine w_fzF ?_) | (with_reducible refine w_fzT ?_) | (with_reducible refine w_sub ?_) | (with_reducible refine w_subA ?_) | (with_reducible refine w_yes ?_) | (with_reducible refine w_m ?_) | (with_reducible refine w_isi ?_) | (with_reducible refine w_sl ?_) | (with_reducible refine w_pNo ?_) | (with_reducible refine w_pI ?_) | (with_reducible refine w_disp ?_) | (with_reducible refine w_dnil ?_) | (with_reducible refine w_dcons ?_) | (with_reducible refine w_sTup ?_) | (with_reducible refine w_subAdd ⟨_, rfl⟩ ?_) | ((fail_if_success (with_reducible refine W.idt ?_)); first | (refine ⟨_, _, _, rfl, rfl, (by first | exact eqD_int _ _ | exact neD_int _ _ | exact addD_int _ _ | exact subD_int _ _ | exact eqD_str _ _ | exact neD_str _ _ | (rw [ixA_list]; rfl) | (rw [ixA_tuple]; rfl) | (rw [ixD_list]; rfl) | (rw [ixD_tuple]; rfl) | exact powD_int _ _ (by decide) | exact modD_int _ _ (by omega) | exact mulA_int _ _ (cmul_small (by constructor <;> omega) (by constructor <;> omega)) | exact divD_int _ _ (cdiv_small (by constructor <;> omega)) | exact (rfl : ltD (.int _) (.int _) = _) | exact (rfl : leD (.int _) (.int _) = _) | exact (rfl : gtD (.int _) (.int _) = _) | exact (rfl : geD (.int _) (.int _) = _)), ?_⟩) | (refine ⟨_, _, _, rfl, rfl, rfl, ?_⟩) | (refine ⟨_, rfl, ⟨_, rfl⟩, ?_⟩) | (refine ⟨_, rfl, rfl, ?_⟩) | (refine ⟨_, rfl, (by assumption : Fr.isObj _ = false), ?_⟩) | (refine ⟨_, _, rfl, (by assumption : (_ : Option Sl) = some _), ?_⟩) | (refine ⟨_, _, _, rfl, rfl, (by assumption : (_ : Option Sl) = some _), ?_⟩) | (refine ⟨_, _, rfl, rfl, ?_⟩) | (refine ⟨_, rfl, Nat.le_of_ble_eq_true rfl, ?_⟩) | (refine ⟨_, rfl, (by omega), (by omega), ?_⟩) | (refine ⟨_, _, rfl, (by omega), ?_⟩) | (refine ⟨_, rfl, ?_⟩) | (refine .inl ⟨_, .inl rfl, ?_⟩) | (refine .inl ⟨_, .inr rfl, ?_⟩) | (refine .inr ⟨_, rfl, ?_⟩))); try dsimp only [List.set_cons_zero, List.set_cons_succ])
    refine ⟨fun hz => ?_, fun _ => w_next ⟨rfl, a, b, c, _, rfl, ha, hb, hb2, hc, by omega⟩⟩
    refine w_seq ?_
    refine w_setV ?_
    refine w_c ?_
    dsimp only
    refine ⟨_, rfl, rfl, ?_⟩
    dsimp only [List.set_cons_succ, List.set_cons_zero]
    refine w_seq ?_
    refine W.mono (Q := fun x => x.1 = .next ∧ ∃ t : Int, x.2 = [some (.own (.list [.int a, .int b, .int c, .list (cs.map PyData.int)])), some (.val (.int many)), some (.val (.int t)), none, none, none] ∧ 0 ≤ t) ?_ ?_
    · repeat ((first | (with_reducible refine w_varE ?_; refine ⟨_, rfl, ?_⟩) | (with_reducible refine w_varF ?_; refine ⟨⟨_, rfl⟩, ?_⟩) | (with_reducible refine w_seq ?_) | (with_reducible refine w_if ?_) | (with_reducible refine w_and ?_) | (with_reducible refine w_or ?_) | (with_reducible refine w_not ?_) | (with_reducible refine w_ite ?_) | (with_reducible refine w_expr ?_) | (with_reducible refine w_ret ?_) | (with_reducible refine w_setV ?_) | (with_reducible refine w_setO ?_) | (with_reducible refine w_m2 ?_) | (with_reducible refine w_m1 ?_) | (with_reducible refine w_mB ?_) | (with_reducible refine w_mCh ?_) | (with_reducible refine w_andV ?_) | (with_reducible refine w_orV ?_) | (with_reducible refine w_notV ?_) | (with_reducible refine w_c ?_) | (with_reducible refine w_acons ?_) | (with_reducible refine w_anil ?_) | (with_reducible refine w_n ?_) | (with_reducible refine w_lst ?_) | (with_reducible refine w_tup ?_) | (with_reducible refine w_next ?_) | (with_reducible refine w_brk ?_) | (with_reducible refine w_cont ?_) | (with_reducible refine w_iR1 ?_) | (with_reducible refine w_iR2 ?_) | (with_reducible refine w_iQ ?_) | (with_reducible refine w_par2 ?_) | (with_reducible refine w_fzF ?_) | (with_reducible refine w_fzT ?_) | (with_reducible refine w_sub ?_) | (with_reducible refine w_subA ?_) | (with_reducible refine w_yes ?_) | (with_reducible refine w_m ?_) | (with_reducible refine w_isi ?_) | (with_reducible refine w_sl ?_) | (with_reducible refine w_pNo ?_) | (with_reducible refine w_pI ?_) | (with_reducible refine w_disp ?_) | (with_reducible refine w_dnil ?_) | (with_reducible refine w_dcons ?_) | (with_reducible refine w_sTup ?_) | (with_reducible refine w_subAdd ⟨_, rfl⟩ ?_) | ((fail_if_success (with_reducible refine W.idt ?_)); first | (refine ⟨_, _, _, rfl, rfl, (by first | exact eqD_int _ _ | exact neD_int _ _ | exact addD_int _ _ | exact subD_int _ _ | exact eqD_str _ _ | exact neD_str _ _ | (rw [ixA_list]; rfl) | (rw [ixA_tuple]; rfl) | (rw [ixD_list]; rfl) | (rw [ixD_tuple]; rfl) | exact powD_int _ _ (by decide) | exact modD_int _ _ (by omega) | exact mulA_int _ _ (cmul_small (by constructor <;> omega) (by constructor <;> omega)) | exact divD_int _ _ (cdiv_small (by constructor <;> omega)) | exact (rfl : ltD (.int _) (.int _) = _) | exact (rfl : leD (.int _) (.int _) = _) | exact (rfl : gtD (.int _) (.int _) = _) | exact (rfl : geD (.int _) (.int _) = _)), ?_⟩) | (refine ⟨_, _, _, rfl, rfl, rfl, ?_⟩) | (refine ⟨_, rfl, ⟨_, rfl⟩, ?_⟩) | (refine ⟨_, rfl, rfl, ?_⟩) | (refine ⟨_, rfl, (by assumption : Fr.isObj _ = false), ?_⟩) | (refine ⟨_, _, rfl, (by assumption : (_ : Option Sl) = some _), ?_⟩) | (refine ⟨_, _, _, rfl, rfl, (by assumption : (_ : Option Sl) = some _), ?_⟩) | (refine ⟨_, _, rfl, rfl, ?_⟩) | (refine ⟨_, rfl, Nat.le_of_ble_eq_true rfl, ?_⟩) | (refine ⟨_, rfl, (by omega), (by omega), ?_⟩) | (refine ⟨_, _, rfl, (by omega), ?_⟩) | (refine ⟨_, rfl, ?_⟩) | (refine .inl ⟨_, .inl rfl, ?_⟩) | (refine .inl ⟨_, .inr rfl, ?_⟩) | (refine .inr ⟨_, rfl, ?_⟩))); try dsimp only [List.set_cons_zero, List.set_cons_succ])
      refine ⟨fun hl => ?_, fun hl => w_next ⟨rfl, 0, rfl, by omega⟩⟩
      have hl := of_decide_eq_true hl
      obtain ⟨x, e1, e2⟩ := atI_nat (xs := cs.map PyData.int) hc hl
      repeat ((first | (with_reducible refine w_varE ?_; refine ⟨_, rfl, ?_⟩) | (with_reducible refine w_varF ?_; refine ⟨⟨_, rfl⟩, ?_⟩) | (with_reducible refine w_seq ?_) | (with_reducible refine w_if ?_) | (with_reducible refine w_and ?_) | (with_reducible refine w_or ?_) | (with_reducible refine w_not ?_) | (with_reducible refine w_ite ?_) | (with_reducible refine w_expr ?_) | (with_reducible refine w_ret ?_) | (with_reducible refine w_setV ?_) | (with_reducible refine w_setO ?_) | (with_reducible refine w_m2 ?_) | (with_reducible refine w_m1 ?_) | (with_reducible refine w_mB ?_) | (with_reducible refine w_mCh ?_) | (with_reducible refine w_andV ?_) | (with_reducible refine w_orV ?_) | (with_reducible refine w_notV ?_) | (with_reducible refine w_c ?_) | (with_reducible refine w_acons ?_) | (with_reducible refine w_anil ?_) | (with_reducible refine w_n ?_) | (with_reducible refine w_lst ?_) | (with_reducible refine w_tup ?_) | (with_reducible refine w_next ?_) | (with_reducible refine w_brk ?_) | (with_reducible refine w_cont ?_) | (with_reducible refine w_iR1 ?_) | (with_reducible refine w_iR2 ?_) | (with_reducible refine w_iQ ?_) | (with_reducible refine w_par2 ?_) | (with_reducible refine w_fzF ?_) | (with_reducible refine w_fzT ?_) | (with_reducible refine w_sub ?_) | (with_reducible refine w_subA ?_) | (with_reducible refine w_yes ?_) | (with_reducible refine w_m ?_) | (with_reducible refine w_isi ?_) | (with_reducible refine w_sl ?_) | (with_reducible refine w_pNo ?_) | (with_reducible refine w_pI ?_) | (with_reducible refine w_disp ?_) | (with_reducible refine w_dnil ?_) | (with_reducible refine w_dcons ?_) | (with_reducible refine w_sTup ?_) | (with_reducible refine w_subAdd ⟨_, rfl⟩ ?_) | ((fail_if_success (with_reducible refine W.idt ?_)); first | (refine ⟨_, _, _, rfl, rfl, (by first | exact eqD_int _ _ | exact neD_int _ _ | exact addD_int _ _ | exact subD_int _ _ | exact eqD_str _ _ | exact neD_str _ _ | (rw [ixA_list]; rfl) | (rw [ixA_tuple]; rfl) | (rw [ixD_list]; rfl) | (rw [ixD_tuple]; rfl) | exact powD_int _ _ (by decide) | exact modD_int _ _ (by omega) | exact mulA_int _ _ (cmul_small (by constructor <;> omega) (by constructor <;> omega)) | exact divD_int _ _ (cdiv_small (by constructor <;> omega)) | exact (rfl : ltD (.int _) (.int _) = _) | exact (rfl : leD (.int _) (.int _) = _) | exact (rfl : gtD (.int _) (.int _) = _) | exact (rfl : geD (.int _) (.int _) = _)), ?_⟩) | (refine ⟨_, _, _, rfl, rfl, rfl, ?_⟩) | (refine ⟨_, rfl, ⟨_, rfl⟩, ?_⟩) | (refine ⟨_, rfl, rfl, ?_⟩) | (refine ⟨_, rfl, (by assumption : Fr.isObj _ = false), ?_⟩) | (refine ⟨_, _, rfl, (by assumption : (_ : Option Sl) = some _), ?_⟩) | (refine ⟨_, _, _, rfl, rfl, (by assumption : (_ : Option Sl) = some _), ?_⟩) | (refine ⟨_, _, rfl, rfl, ?_⟩) | (refine ⟨_, rfl, Nat.le_of_ble_eq_true rfl, ?_⟩) | (refine ⟨_, rfl, (by omega), (by omega), ?_⟩) | (refine ⟨_, _, rfl, (by omega), ?_⟩) | (refine ⟨_, rfl, ?_⟩) | (refine .inl ⟨_, .inl rfl, ?_⟩) | (refine .inl ⟨_, .inr rfl, ?_⟩) | (refine .inr ⟨_, rfl, ?_⟩))); try dsimp only [List.set_cons_zero, List.set_cons_succ])
      refine ⟨_, _, _, rfl, rfl, (by rw [ixA_list, e1]; rfl), ?_⟩
      obtain ⟨y, hy, rfl⟩ := List.mem_map.mp e2
      exact ⟨_, rfl, rfl, rfl, y, rfl, hcs y hy⟩
    · rintro ⟨f, ρ⟩ ⟨rfl, t, rfl, ht⟩
      dsimp only
      repeat ((first | (with_reducible refine w_varE ?_; refine ⟨_, rfl, ?_⟩) | (with_reducible refine w_varF ?_; refine ⟨⟨_, rfl⟩, ?_⟩) | (with_reducible refine w_seq ?_) | (with_reducible refine w_if ?_) | (with_reducible refine w_and ?_) | (with_reducible refine w_or ?_) | (with_reducible refine w_not ?_) | (with_reducible refine w_ite ?_) | (with_reducible refine w_expr ?_) | (with_reducible refine w_ret ?_) | (with_reducible refine w_setV ?_) | (with_reducible refine w_setO ?_) | (with_reducible refine w_m2 ?_) | (with_reducible refine w_m1 ?_) | (with_reducible refine w_mB ?_) | (with_reducible refine w_mCh ?_) | (with_reducible refine w_andV ?_) | (with_reducible refine w_orV ?_) | (with_reducible refine w_notV ?_) | (with_reducible refine w_c ?_) | (with_reducible refine w_acons ?_) | (with_reducible refine w_anil ?_) | (with_reducible refine w_n ?_) | (with_reducible refine w_lst ?_) | (with_reducible refine w_tup ?_) | (with_reducible refine w_next ?_) | (with_reducible refine w_brk ?_) | (with_reducible refine w_cont ?_) | (with_reducible refine w_iR1 ?_) | (with_reducible refine w_iR2 ?_) | (with_reducible refine w_iQ ?_) | (with_reducible refine w_par2 ?_) | (with_reducible refine w_fzF ?_) | (with_reducible refine w_fzT ?_) | (with_reducible refine w_sub ?_) | (with_reducible refine w_subA ?_) | (with_reducible refine w_yes ?_) | (with_reducible refine w_m ?_) | (with_reducible refine w_isi ?_) | (with_reducible refine w_sl ?_) | (with_reducible refine w_pNo ?_) | (with_reducible refine w_pI ?_) | (with_reducible refine w_disp ?_) | (with_reducible refine w_dnil ?_) | (with_reducible refine w_dcons ?_) | (with_reducible refine w_sTup ?_) | (with_reducible refine w_subAdd ⟨_, rfl⟩ ?_) | ((fail_if_success (with_reducible refine W.idt ?_)); first | (refine ⟨_, _, _, rfl, rfl, (by first | exact eqD_int _ _ | exact neD_int _ _ | exact addD_int _ _ | exact subD_int _ _ | exact eqD_str _ _ | exact neD_str _ _ | (rw [ixA_list]; rfl) | (rw [ixA_tuple]; rfl) | (rw [ixD_list]; rfl) | (rw [ixD_tuple]; rfl) | exact powD_int _ _ (by decide) | exact modD_int _ _ (by omega) | exact mulA_int _ _ (cmul_small (by constructor <;> omega) (by constructor <;> omega)) | exact divD_int _ _ (cdiv_small (by constructor <;> omega)) | exact (rfl : ltD (.int _) (.int _) = _) | exact (rfl : leD (.int _) (.int _) = _) | exact (rfl : gtD (.int _) (.int _) = _) | exact (rfl : geD (.int _) (.int _) = _)), ?_⟩) | (refine ⟨_, _, _, rfl, rfl, rfl, ?_⟩) | (refine ⟨_, rfl, ⟨_, rfl⟩, ?_⟩) | (refine ⟨_, rfl, rfl, ?_⟩) | (refine ⟨_, rfl, (by assumption : Fr.isObj _ = false), ?_⟩) | (refine ⟨_, _, rfl, (by assumption : (_ : Option Sl) = some _), ?_⟩) | (refine ⟨_, _, _, rfl, rfl, (by assumption : (_ : Option Sl) = some _), ?_⟩) | (refine ⟨_, _, rfl, rfl, ?_⟩) | (refine ⟨_, rfl, Nat.le_of_ble_eq_true rfl, ?_⟩) | (refine ⟨_, rfl, (by omega), (by omega), ?_⟩) | (refine ⟨_, _, rfl, (by omega), ?_⟩) | (refine ⟨_, rfl, ?_⟩) | (refine .inl ⟨_, .inl rfl, ?_⟩) | (refine .inl ⟨_, .inr rfl, ?_⟩) | (refine .inr ⟨_, rfl, ?_⟩))); try dsimp only [List.set_cons_zero, List.set_cons_succ])
      refine ⟨fun h5 => ?_, fun h5 => ?_⟩
      · repeat ((first | (with_reducible refine w_varE ?_; refine ⟨_, rfl, ?_⟩) | (with_reducible refine w_varF ?_; refine ⟨⟨_, rfl⟩, ?_⟩) | (with_reducible refine w_seq ?_) | (with_reducible refine w_if ?_) | (with_reducible refine w_and ?_) | (with_reducible refine w_or ?_) | (with_reducible refine w_not ?_) | (with_reducible refine w_ite ?_) | (with_reducible refine w_expr ?_) | (with_reducible refine w_ret ?_) | (with_reducible refine w_setV ?_) | (with_reducible refine w_setO ?_) | (with_reducible refine w_m2 ?_) | (with_reducible refine w_m1 ?_) | (with_reducible refine w_mB ?_) | (with_reducible refine w_mCh ?_) | (with_reducible refine w_andV ?_) | (with_reducible refine w_orV ?_) | (with_reducible refine w_notV ?_) | (with_reducible refine w_c ?_) | (with_reducible refine w_acons ?_) | (with_reducible refine w_anil ?_) | (with_reducible refine w_n ?_) | (with_reducible refine w_lst ?_) | (with_reducible refine w_tup ?_) | (with_reducible refine w_next ?_) | (with_reducible refine w_brk ?_) | (with_reducible refine w_cont ?_) | (with_reducible refine w_iR1 ?_) | (with_reducible refine w_iR2 ?_) | (with_reducible refine w_iQ ?_) | (with_reducible refine w_par2 ?_) | (with_reducible refine w_fzF ?_) | (with_reducible refine w_fzT ?_) | (with_reducible refine w_sub ?_) | (with_reducible refine w_subA ?_) | (with_reducible refine w_yes ?_) | (with_reducible refine w_m ?_) | (with_reducible refine w_isi ?_) | (with_reducible refine w_sl ?_) | (with_reducible refine w_pNo ?_) | (with_reducible refine w_pI ?_) | (with_reducible refine w_disp ?_) | (with_reducible refine w_dnil ?_) | (with_reducible refine w_dcons ?_) | (with_reducible refine w_sTup ?_) | (with_reducible refine w_subAdd ⟨_, rfl⟩ ?_) | ((fail_if_success (with_reducible refine W.idt ?_)); first | (refine ⟨_, _, _, rfl, rfl, (by first | exact eqD_int _ _ | exact neD_int _ _ | exact addD_int _ _ | exact subD_int _ _ | exact eqD_str _ _ | exact neD_str _ _ | (rw [ixA_list]; rfl) | (rw [ixA_tuple]; rfl) | (rw [ixD_list]; rfl) | (rw [ixD_tuple]; rfl) | exact powD_int _ _ (by decide) | exact modD_int _ _ (by omega) | exact mulA_int _ _ (cmul_small (by constructor <;> omega) (by constructor <;> omega)) | exact divD_int _ _ (cdiv_small (by constructor <;> omega)) | exact (rfl : ltD (.int _) (.int _) = _) | exact (rfl : leD (.int _) (.int _) = _) | exact (rfl : gtD (.int _) (.int _) = _) | exact (rfl : geD (.int _) (.int _) = _)), ?_⟩) | (refine ⟨_, _, _, rfl, rfl, rfl, ?_⟩) | (refine ⟨_, rfl, ⟨_, rfl⟩, ?_⟩) | (refine ⟨_, rfl, rfl, ?_⟩) | (refine ⟨_, rfl, (by assumption : Fr.isObj _ = false), ?_⟩) | (refine ⟨_, _, rfl, (by assumption : (_ : Option Sl) = some _), ?_⟩) | (refine ⟨_, _, _, rfl, rfl, (by assumption : (_ : Option Sl) = some _), ?_⟩) | (refine ⟨_, _, rfl, rfl, ?_⟩) | (refine ⟨_, rfl, Nat.le_of_ble_eq_true rfl, ?_⟩) | (refine ⟨_, rfl, (by omega), (by omega), ?_⟩) | (refine ⟨_, _, rfl, (by omega), ?_⟩) | (refine ⟨_, rfl, ?_⟩) | (refine .inl ⟨_, .inl rfl, ?_⟩) | (refine .inl ⟨_, .inr rfl, ?_⟩) | (refine .inr ⟨_, rfl, ?_⟩))); try dsimp only [List.set_cons_zero, List.set_cons_succ])
        exact ⟨rfl, t, _, c + 1, _, rfl, ht, Int.emod_nonneg _ (by omega), Int.emod_lt_of_pos _ (by omega), by omega, by omega⟩
      · repeat ((first | (with_reducible refine w_varE ?_; refine ⟨_, rfl, ?_⟩) | (with_reducible refine w_varF ?_; refine ⟨⟨_, rfl⟩, ?_⟩) | (with_reducible refine w_seq ?_) | (with_reducible refine w_if ?_) | (with_reducible refine w_and ?_) | (with_reducible refine w_or ?_) | (with_reducible refine w_not ?_) | (with_reducible refine w_ite ?_) | (with_reducible refine w_expr ?_) | (with_reducible refine w_ret ?_) | (with_reducible refine w_setV ?_) | (with_reducible refine w_setO ?_) | (with_reducible refine w_m2 ?_) | (with_reducible refine w_m1 ?_) | (with_reducible refine w_mB ?_) | (with_reducible refine w_mCh ?_) | (with_reducible refine w_andV ?_) | (with_reducible refine w_orV ?_) | (with_reducible refine w_notV ?_) | (with_reducible refine w_c ?_) | (with_reducible refine w_acons ?_) | (with_reducible refine w_anil ?_) | (with_reducible refine w_n ?_) | (with_reducible refine w_lst ?_) | (with_reducible refine w_tup ?_) | (with_reducible refine w_next ?_) | (with_reducible refine w_brk ?_) | (with_reducible refine w_cont ?_) | (with_reducible refine w_iR1 ?_) | (with_reducible refine w_iR2 ?_) | (with_reducible refine w_iQ ?_) | (with_reducible refine w_par2 ?_) | (with_reducible refine w_fzF ?_) | (with_reducible refine w_fzT ?_) | (with_reducible refine w_sub ?_) | (with_reducible refine w_subA ?_) | (with_reducible refine w_yes ?_) | (with_reducible refine w_m ?_) | (with_reducible refine w_isi ?_) | (with_reducible refine w_sl ?_) | (with_reducible refine w_pNo ?_) | (with_reducible refine w_pI ?_) | (with_reducible refine w_disp ?_) | (with_reducible refine w_dnil ?_) | (with_reducible refine w_dcons ?_) | (with_reducible refine w_sTup ?_) | (with_reducible refine w_subAdd ⟨_, rfl⟩ ?_) | ((fail_if_success (with_reducible refine W.idt ?_)); first | (refine ⟨_, _, _, rfl, rfl, (by first | exact eqD_int _ _ | exact neD_int _ _ | exact addD_int _ _ | exact subD_int _ _ | exact eqD_str _ _ | exact neD_str _ _ | (rw [ixA_list]; rfl) | (rw [ixA_tuple]; rfl) | (rw [ixD_list]; rfl) | (rw [ixD_tuple]; rfl) | exact powD_int _ _ (by decide) | exact modD_int _ _ (by omega) | exact mulA_int _ _ (cmul_small (by constructor <;> omega) (by constructor <;> omega)) | exact divD_int _ _ (cdiv_small (by constructor <;> omega)) | exact (rfl : ltD (.int _) (.int _) = _) | exact (rfl : leD (.int _) (.int _) = _) | exact (rfl : gtD (.int _) (.int _) = _) | exact (rfl : geD (.int _) (.int _) = _)), ?_⟩) | (refine ⟨_, _, _, rfl, rfl, rfl, ?_⟩) | (refine ⟨_, rfl, ⟨_, rfl⟩, ?_⟩) | (refine ⟨_, rfl, rfl, ?_⟩) | (refine ⟨_, rfl, (by assumption : Fr.isObj _ = false), ?_⟩) | (refine ⟨_, _, rfl, (by assumption : (_ : Option Sl) = some _), ?_⟩) | (refine ⟨_, _, _, rfl, rfl, (by assumption : (_ : Option Sl) = some _), ?_⟩) | (refine ⟨_, _, rfl, rfl, ?_⟩) | (refine ⟨_, rfl, Nat.le_of_ble_eq_true rfl, ?_⟩) | (refine ⟨_, rfl, (by omega), (by omega), ?_⟩) | (refine ⟨_, _, rfl, (by omega), ?_⟩) | (refine ⟨_, rfl, ?_⟩) | (refine .inl ⟨_, .inl rfl, ?_⟩) | (refine .inl ⟨_, .inr rfl, ?_⟩) | (refine .inr ⟨_, rfl, ?_⟩))); try dsimp only [List.set_cons_zero, List.set_cons_succ])
        exact ⟨rfl, a, _, c + 1, _, rfl, ha, Int.emod_nonneg _ (by omega), Int.emod_lt_of_pos _ (by omega), by omega, by omega⟩
  · rintro ⟨f, ρ⟩ ⟨rfl, a, b, c, t, rfl, ha, hb, hb2, hc, hc2⟩
    dsimp only
    repeat ((first | (with_reducible refine w_varE ?_; refine ⟨_, rfl, ?_⟩) | (with_reducible refine w_varF ?_; refine ⟨⟨_, rfl⟩, ?_⟩) | (with_reducible refine w_seq ?_) | (with_reducible refine w_if ?_) | (with_reducible refine w_and ?_) | (with_reducible refine w_or ?_) | (with_reducible refine w_not ?_) | (with_reducible refine w_ite ?_) | (with_reducible refine w_expr ?_) | (with_reducible refine w_ret ?_) | (with_reducible refine w_setV ?_) | (with_reducible refine w_setO ?_) | (with_reducible refine w_m2 ?_) | (with_reducible refine w_m1 ?_) | (with_reducible refine w_mB ?_) | (with_reducible refine w_mCh ?_) | (with_reducible refine w_andV ?_) | (with_reducible refine w_orV ?_) | (with_reducible refine w_notV ?_) | (with_reducible refine w_c ?_) | (with_reducible refine w_acons ?_) | (with_reducible refine w_anil ?_) | (with_reducible refine w_n ?_) | (with_reducible refine w_lst ?_) | (with_reducible refine w_tup ?_) | (with_reducible refine w_next ?_) | (with_reducible refine w_brk ?_) | (with_reducible refine w_cont ?_) | (with_reducible refine w_iR1 ?_) | (with_reducible refine w_iR2 ?_) | (with_reducible refine w_iQ ?_) | (with_reducible refine w_par2 ?_) | (with_reducible refine w_fzF ?_) | (with_reducible refine w_fzT ?_) | (with_reducible refine w_sub ?_) | (with_reducible refine w_subA ?_) | (with_reducible refine w_yes ?_) | (with_reducible refine w_m ?_) | (with_reducible refine w_isi ?_) | (with_reducible refine w_sl ?_) | (with_reducible refine w_pNo ?_) | (with_reducible refine w_pI ?_) | (with_reducible refine w_disp ?_) | (with_reducible refine w_dnil ?_) | (with_reducible refine w_dcons ?_) | (with_reducible refine w_sTup ?_) | (with_reducible refine w_subAdd ⟨_, rfl⟩ ?_) | ((fail_if_success (with_reducible refine W.idt ?_)); first | (refine ⟨_, _, _, rfl, rfl, (by first | exact eqD_int _ _ | exact neD_int _ _ | exact addD_int _ _ | exact subD_int _ _ | exact eqD_str _ _ | exact neD_str _ _ | (rw [ixA_list]; rfl) | (rw [ixA_tuple]; rfl) | (rw [ixD_list]; rfl) | (rw [ixD_tuple]; rfl) | exact powD_int _ _ (by decide) | exact modD_int _ _ (by omega) | exact mulA_int _ _ (cmul_small (by constructor <;> omega) (by constructor <;> omega)) | exact divD_int _ _ (cdiv_small (by constructor <;> omega)) | exact (rfl : ltD (.int _) (.int _) = _) | exact (rfl : leD (.int _) (.int _) = _) | exact (rfl : gtD (.int _) (.int _) = _) | exact (rfl : geD (.int _) (.int _) = _)), ?_⟩) | (refine ⟨_, _, _, rfl, rfl, rfl, ?_⟩) | (refine ⟨_, rfl, ⟨_, rfl⟩, ?_⟩) | (refine ⟨_, rfl, rfl, ?_⟩) | (refine ⟨_, rfl, (by assumption : Fr.isObj _ = false), ?_⟩) | (refine ⟨_, _, rfl, (by assumption : (_ : Option Sl) = some _), ?_⟩) | (refine ⟨_, _, _, rfl, rfl, (by assumption : (_ : Option Sl) = some _), ?_⟩) | (refine ⟨_, _, rfl, rfl, ?_⟩) | (refine ⟨_, rfl, Nat.le_of_ble_eq_true rfl, ?_⟩) | (refine ⟨_, rfl, (by omega), (by omega), ?_⟩) | (refine ⟨_, _, rfl, (by omega), ?_⟩) | (refine ⟨_, rfl, ?_⟩) | (refine .inl ⟨_, .inl rfl, ?_⟩) | (refine .inl ⟨_, .inr rfl, ?_⟩) | (refine .inr ⟨_, rfl, ?_⟩))); try dsimp only [List.set_cons_zero, List.set_cons_succ])
    have bg : ∀ a', 0 ≤ a' → Bg (n + 1) (.list [.int a', .int b, .int c, .list (cs.map PyData.int)]) := fun a' h => ⟨a', b, c, cs, rfl, h, hb, hb2, hc, hc2, hcs⟩
    refine ⟨fun hz => ?_, fun hz => ?_⟩
    · repeat ((first | (with_reducible refine w_varE ?_; refine ⟨_, rfl, ?_⟩) | (with_reducible refine w_varF ?_; refine ⟨⟨_, rfl⟩, ?_⟩) | (with_reducible refine w_seq ?_) | (with_reducible refine w_if ?_) | (with_reducible refine w_and ?_) | (with_reducible refine w_or ?_) | (with_reducible refine w_not ?_) | (with_reducible refine w_ite ?_) | (with_reducible refine w_expr ?_) | (with_reducible refine w_ret ?_) | (with_reducible refine w_setV ?_) | (with_reducible refine w_setO ?_) | (with_reducible refine w_m2 ?_) | (with_reducible refine w_m1 ?_) | (with_reducible refine w_mB ?_) | (with_reducible refine w_mCh ?_) | (with_reducible refine w_andV ?_) | (with_reducible refine w_orV ?_) | (with_reducible refine w_notV ?_) | (with_reducible refine w_c ?_) | (with_reducible refine w_acons ?_) | (with_reducible refine w_anil ?_) | (with_reducible refine w_n ?_) | (with_reducible refine w_lst ?_) | (with_reducible refine w_tup ?_) | (with_reducible refine w_next ?_) | (with_reducible refine w_brk ?_) | (with_reducible refine w_cont ?_) | (with_reducible refine w_iR1 ?_) | (with_reducible refine w_iR2 ?_) | (with_reducible refine w_iQ ?_) | (with_reducible refine w_par2 ?_) | (with_reducible refine w_fzF ?_) | (with_reducible refine w_fzT ?_) | (with_reducible refine w_sub ?_) | (with_reducible refine w_subA ?_) | (with_reducible refine w_yes ?_) | (with_reducible refine w_m ?_) | (with_reducible refine w_isi ?_) | (with_reducible refine w_sl ?_) | (with_reducible refine w_pNo ?_) | (with_reducible refine w_pI ?_) | (with_reducible refine w_disp ?_) | (with_reducible refine w_dnil ?_) | (with_reducible refine w_dcons ?_) | (with_reducible refine w_sTup ?_) | (with_reducible refine w_subAdd ⟨_, rfl⟩ ?_) | ((fail_if_success (with_reducible refine W.idt ?_)); first | (refine ⟨_, _, _, rfl, rfl, (by first | exact eqD_int _ _ | exact neD_int _ _ | exact addD_int _ _ | exact subD_int _ _ | exact eqD_str _ _ | exact neD_str _ _ | (rw [ixA_list]; rfl) | (rw [ixA_tuple]; rfl) | (rw [ixD_list]; rfl) | (rw [ixD_tuple]; rfl) | exact powD_int _ _ (by decide) | exact modD_int _ _ (by omega) | exact mulA_int _ _ (cmul_small (by constructor <;> omega) (by constructor <;> omega)) | exact divD_int _ _ (cdiv_small (by constructor <;> omega)) | exact (rfl : ltD (.int _) (.int _) = _) | exact (rfl : leD (.int _) (.int _) = _) | exact (rfl : gtD (.int _) (.int _) = _) | exact (rfl : geD (.int _) (.int _) = _)), ?_⟩) | (refine ⟨_, _, _, rfl, rfl, rfl, ?_⟩) | (refine ⟨_, rfl, ⟨_, rfl⟩, ?_⟩) | (refine ⟨_, rfl, rfl, ?_⟩) | (refine ⟨_, rfl, (by assumption : Fr.isObj _ = false), ?_⟩) | (refine ⟨_, _, rfl, (by assumption : (_ : Option Sl) = some _), ?_⟩) | (refine ⟨_, _, _, rfl, rfl, (by assumption : (_ : Option Sl) = some _), ?_⟩) | (refine ⟨_, _, rfl, rfl, ?_⟩) | (refine ⟨_, rfl, Nat.le_of_ble_eq_true rfl, ?_⟩) | (refine ⟨_, rfl, (by omega), (by omega), ?_⟩) | (refine ⟨_, _, rfl, (by omega), ?_⟩) | (refine ⟨_, rfl, ?_⟩) | (refine .inl ⟨_, .inl rfl, ?_⟩) | (refine .inl ⟨_, .inr rfl, ?_⟩) | (refine .inr ⟨_, rfl, ?_⟩))); try dsimp only [List.set_cons_zero, List.set_cons_succ])
      exact q _ _ (Int.emod_nonneg _ (by omega)) (Int.emod_lt_of_pos _ h0) (bg _ (Int.ediv_nonneg ha (by omega)))
    · repeat ((first | (with_reducible refine w_varE ?_; refine ⟨_, rfl, ?_⟩) | (with_reducible refine w_varF ?_; refine ⟨⟨_, rfl⟩, ?_⟩) | (with_reducible refine w_seq ?_) | (with_reducible refine w_if ?_) | (with_reducible refine w_and ?_) | (with_reducible refine w_or ?_) | (with_reducible refine w_not ?_) | (with_reducible refine w_ite ?_) | (with_reducible refine w_expr ?_) | (with_reducible refine w_ret ?_) | (with_reducible refine w_setV ?_) | (with_reducible refine w_setO ?_) | (with_reducible refine w_m2 ?_) | (with_reducible refine w_m1 ?_) | (with_reducible refine w_mB ?_) | (with_reducible refine w_mCh ?_) | (with_reducible refine w_andV ?_) | (with_reducible refine w_orV ?_) | (with_reducible refine w_notV ?_) | (with_reducible refine w_c ?_) | (with_reducible refine w_acons ?_) | (with_reducible refine w_anil ?_) | (with_reducible refine w_n ?_) | (with_reducible refine w_lst ?_) | (with_reducible refine w_tup ?_) | (with_reducible refine w_next ?_) | (with_reducible refine w_brk ?_) | (with_reducible refine w_cont ?_) | (with_reducible refine w_iR1 ?_) | (with_reducible refine w_iR2 ?_) | (with_reducible refine w_iQ ?_) | (with_reducible refine w_par2 ?_) | (with_reducible refine w_fzF ?_) | (with_reducible refine w_fzT ?_) | (with_reducible refine w_sub ?_) | (with_reducible refine w_subA ?_) | (with_reducible refine w_yes ?_) | (with_reducible refine w_m ?_) | (with_reducible refine w_isi ?_) | (with_reducible refine w_sl ?_) | (with_reducible refine w_pNo ?_) | (with_reducible refine w_pI ?_) | (with_reducible refine w_disp ?_) | (with_reducible refine w_dnil ?_) | (with_reducible refine w_dcons ?_) | (with_reducible refine w_sTup ?_) | (with_reducible refine w_subAdd ⟨_, rfl⟩ ?_) | ((fail_if_success (with_reducible refine W.idt ?_)); first | (refine ⟨_, _, _, rfl, rfl, (by first | exact eqD_int _ _ | exact neD_int _ _ | exact addD_int _ _ | exact subD_int _ _ | exact eqD_str _ _ | exact neD_str _ _ | (rw [ixA_list]; rfl) | (rw [ixA_tuple]; rfl) | (rw [ixD_list]; rfl) | (rw [ixD_tuple]; rfl) | exact powD_int _ _ (by decide) | exact modD_int _ _ (by omega) | exact mulA_int _ _ (cmul_small (by constructor <;> omega) (by constructor <;> omega)) | exact divD_int _ _ (cdiv_small (by constructor <;> omega)) | exact (rfl : ltD (.int _) (.int _) = _) | exact (rfl : leD (.int _) (.int _) = _) | exact (rfl : gtD (.int _) (.int _) = _) | exact (rfl : geD (.int _) (.int _) = _)), ?_⟩) | (refine ⟨_, _, _, rfl, rfl, rfl, ?_⟩) | (refine ⟨_, rfl, ⟨_, rfl⟩, ?_⟩) | (refine ⟨_, rfl, rfl, ?_⟩) | (refine ⟨_, rfl, (by assumption : Fr.isObj _ = false), ?_⟩) | (refine ⟨_, _, rfl, (by assumption : (_ : Option Sl) = some _), ?_⟩) | (refine ⟨_, _, _, rfl, rfl, (by assumption : (_ : Option Sl) = some _), ?_⟩) | (refine ⟨_, _, rfl, rfl, ?_⟩) | (refine ⟨_, rfl, Nat.le_of_ble_eq_true rfl, ?_⟩) | (refine ⟨_, rfl, (by omega), (by omega), ?_⟩) | (refine ⟨_, _, rfl, (by omega), ?_⟩) | (refine ⟨_, rfl, ?_⟩) | (refine .inl ⟨_, .inl rfl, ?_⟩) | (refine .inl ⟨_, .inr rfl, ?_⟩) | (refine .inr ⟨_, rfl, ?_⟩))); try dsimp only [List.set_cons_zero, List.set_cons_succ])
      refine ⟨fun hz => ?_, fun hz => ?_⟩
      · repeat ((first | (with_reducible refine w_varE ?_; refine ⟨_, rfl, ?_⟩) | (with_reducible refine w_varF ?_; refine ⟨⟨_, rfl⟩, ?_⟩) | (with_reducible refine w_seq ?_) | (with_reducible refine w_if ?_) | (with_reducible refine w_and ?_) | (with_reducible refine w_or ?_) | (with_reducible refine w_not ?_) | (with_reducible refine w_ite ?_) | (with_reducible refine w_expr ?_) | (with_reducible refine w_ret ?_) | (with_reducible refine w_setV ?_) | (with_reducible refine w_setO ?_) | (with_reducible refine w_m2 ?_) | (with_reducible refine w_m1 ?_) | (with_reducible refine w_mB ?_) | (with_reducible refine w_mCh ?_) | (with_reducible refine w_andV ?_) | (with_reducible refine w_orV ?_) | (with_reducible refine w_notV ?_) | (with_reducible refine w_c ?_) | (with_reducible refine w_acons ?_) | (with_reducible refine w_anil ?_) | (with_reducible refine w_n ?_) | (with_reducible refine w_lst ?_) | (with_reducible refine w_tup ?_) | (with_reducible refine w_next ?_) | (with_reducible refine w_brk ?_) | (with_reducible refine w_cont ?_) | (with_reducible refine w_iR1 ?_) | (with_reducible refine w_iR2 ?_) | (with_reducible refine w_iQ ?_) | (with_reducible refine w_par2 ?_) | (with_reducible refine w_fzF ?_) | (with_reducible refine w_fzT ?_) | (with_reducible refine w_sub ?_) | (with_reducible refine w_subA ?_) | (with_reducible refine w_yes ?_) | (with_reducible refine w_m ?_) | (with_reducible refine w_isi ?_) | (with_reducible refine w_sl ?_) | (with_reducible refine w_pNo ?_) | (with_reducible refine w_pI ?_) | (with_reducible refine w_disp ?_) | (with_reducible refine w_dnil ?_) | (with_reducible refine w_dcons ?_) | (with_reducible refine w_sTup ?_) | (with_reducible refine w_subAdd ⟨_, rfl⟩ ?_) | ((fail_if_success (with_reducible refine W.idt ?_)); first | (refine ⟨_, _, _, rfl, rfl, (by first | exact eqD_int _ _ | exact neD_int _ _ | exact addD_int _ _ | exact subD_int _ _ | exact eqD_str _ _ | exact neD_str _ _ | (rw [ixA_list]; rfl) | (rw [ixA_tuple]; rfl) | (rw [ixD_list]; rfl) | (rw [ixD_tuple]; rfl) | exact powD_int _ _ (by decide) | exact modD_int _ _ (by omega) | exact mulA_int _ _ (cmul_small (by constructor <;> omega) (by constructor <;> omega)) | exact divD_int _ _ (cdiv_small (by constructor <;> omega)) | exact (rfl : ltD (.int _) (.int _) = _) | exact (rfl : leD (.int _) (.int _) = _) | exact (rfl : gtD (.int _) (.int _) = _) | exact (rfl : geD (.int _) (.int _) = _)), ?_⟩) | (refine ⟨_, _, _, rfl, rfl, rfl, ?_⟩) | (refine ⟨_, rfl, ⟨_, rfl⟩, ?_⟩) | (refine ⟨_, rfl, rfl, ?_⟩) | (refine ⟨_, rfl, (by assumption : Fr.isObj _ = false), ?_⟩) | (refine ⟨_, _, rfl, (by assumption : (_ : Option Sl) = some _), ?_⟩) | (refine ⟨_, _, _, rfl, rfl, (by assumption : (_ : Option Sl) = some _), ?_⟩) | (refine ⟨_, _, rfl, rfl, ?_⟩) | (refine ⟨_, rfl, Nat.le_of_ble_eq_true rfl, ?_⟩) | (refine ⟨_, rfl, (by omega), (by omega), ?_⟩) | (refine ⟨_, _, rfl, (by omega), ?_⟩) | (refine ⟨_, rfl, ?_⟩) | (refine .inl ⟨_, .inl rfl, ?_⟩) | (refine .inl ⟨_, .inr rfl, ?_⟩) | (refine .inr ⟨_, rfl, ?_⟩))); try dsimp only [List.set_cons_zero, List.set_cons_succ])
        exact q _ _ (Int.emod_nonneg _ (by omega)) (Int.emod_lt_of_pos _ h0) (bg _ ha)
      · repeat ((first | (with_reducible refine w_varE ?_; refine ⟨_, rfl, ?_⟩) | (with_reducible refine w_varF ?_; refine ⟨⟨_, rfl⟩, ?_⟩) | (with_reducible refine w_seq ?_) | (with_reducible refine w_if ?_) | (with_reducible refine w_and ?_) | (with_reducible refine w_or ?_) | (with_reducible refine w_not ?_) | (with_reducible refine w_ite ?_) | (with_reducible refine w_expr ?_) | (with_reducible refine w_ret ?_) | (with_reducible refine w_setV ?_) | (with_reducible refine w_setO ?_) | (with_reducible refine w_m2 ?_) | (with_reducible refine w_m1 ?_) | (with_reducible refine w_mB ?_) | (with_reducible refine w_mCh ?_) | (with_reducible refine w_andV ?_) | (with_reducible refine w_orV ?_) | (with_reducible refine w_notV ?_) | (with_reducible refine w_c ?_) | (with_reducible refine w_acons ?_) | (with_reducible refine w_anil ?_) | (with_reducible refine w_n ?_) | (with_reducible refine w_lst ?_) | (with_reducible refine w_tup ?_) | (with_reducible refine w_next ?_) | (with_reducible refine w_brk ?_) | (with_reducible refine w_cont ?_) | (with_reducible refine w_iR1 ?_) | (with_reducible refine w_iR2 ?_) | (with_reducible refine w_iQ ?_) | (with_reducible refine w_par2 ?_) | (with_reducible refine w_fzF ?_) | (with_reducible refine w_fzT ?_) | (with_reducible refine w_sub ?_) | (with_reducible refine w_subA ?_) | (with_reducible refine w_yes ?_) | (with_reducible refine w_m ?_) | (with_reducible refine w_isi ?_) | (with_reducible refine w_sl ?_) | (with_reducible refine w_pNo ?_) | (with_reducible refine w_pI ?_) | (with_reducible refine w_disp ?_) | (with_reducible refine w_dnil ?_) | (with_reducible refine w_dcons ?_) | (with_reducible refine w_sTup ?_) | (with_reducible refine w_subAdd ⟨_, rfl⟩ ?_) | ((fail_if_success (with_reducible refine W.idt ?_)); first | (refine ⟨_, _, _, rfl, rfl, (by first | exact eqD_int _ _ | exact neD_int _ _ | exact addD_int _ _ | exact subD_int _ _ | exact eqD_str _ _ | exact neD_str _ _ | (rw [ixA_list]; rfl) | (rw [ixA_tuple]; rfl) | (rw [ixD_list]; rfl) | (rw [ixD_tuple]; rfl) | exact powD_int _ _ (by decide) | exact modD_int _ _ (by omega) | exact mulA_int _ _ (cmul_small (by constructor <;> omega) (by constructor <;> omega)) | exact divD_int _ _ (cdiv_small (by constructor <;> omega)) | exact (rfl : ltD (.int _) (.int _) = _) | exact (rfl : leD (.int _) (.int _) = _) | exact (rfl : gtD (.int _) (.int _) = _) | exact (rfl : geD (.int _) (.int _) = _)), ?_⟩) | (refine ⟨_, _, _, rfl, rfl, rfl, ?_⟩) | (refine ⟨_, rfl, ⟨_, rfl⟩, ?_⟩) | (refine ⟨_, rfl, rfl, ?_⟩) | (refine ⟨_, rfl, (by assumption : Fr.isObj _ = false), ?_⟩) | (refine ⟨_, _, rfl, (by assumption : (_ : Option Sl) = some _), ?_⟩) | (refine ⟨_, _, _, rfl, rfl, (by assumption : (_ : Option Sl) = some _), ?_⟩) | (refine ⟨_, _, rfl, rfl, ?_⟩) | (refine ⟨_, rfl, Nat.le_of_ble_eq_true rfl, ?_⟩) | (refine ⟨_, rfl, (by omega), (by omega), ?_⟩) | (refine ⟨_, _, rfl, (by omega), ?_⟩) | (refine ⟨_, rfl, ?_⟩) | (refine .inl ⟨_, .inl rfl, ?_⟩) | (refine .inl ⟨_, .inr rfl, ?_⟩) | (refine .inr ⟨_, rfl, ?_⟩))); try dsimp only [List.set_cons_zero, List.set_cons_succ])
        exact q _ _ (Int.emod_nonneg _ (by omega)) (Int.emod_lt_of_pos _ h0) (bg _ ha)
end Fr
namespace Sh
open PySem L2 Fr
local macro_rules
  | `(tactic| simp_arith only [$xs,*] $[$l:location]?) => `(tactic| simp -dsimp -implicitDefEqProofs only [Fr.bnd_ok, Fr.bnd_bad, Fr.bnd_ex, Fr.bnd_bnd, Fr.bnd_ite, Fr.e_fzO, Fr.e_fzv, Fr.e_fzo, Fr.e_fzr, Fr.e_fzs, Fr.e_var0, Fr.look_zero, Fr.look_succ, Fr.e_var, Fr.atV_val, Fr.atV_own, Fr.e_c, Fr.e_giv, Fr.e_rvv, Fr.e_rvo, Fr.own1_own, Fr.e_rd1v, Fr.e_rd1r, Fr.e_m2, Fr.e_m1, Fr.toB_bool, Fr.e_mB, Fr.e_and, Fr.e_or, Fr.e_not, Fr.e_andV, Fr.e_orV, Fr.e_notV, Fr.e_ite, Fr.chB_b, Fr.e_ch, Fr.e_anil, Fr.e_acons, Fr.rds_nil, Fr.rds_cons, Fr.e_mN, Fr.valsK_nil, Fr.valsK_cons, Fr.e_tup, Fr.e_lst, Fr.fin_val, Fr.fin_own, Fr.fin_ex, Fr.e_callF, Fr.nd_nil, Fr.nd_val, Fr.nd_ref, Fr.pos_nil, Fr.pos_val, Fr.pos_ref, Fr.arg_val, Fr.own2_own, Fr.arg_ref, Fr.wb_nil, Fr.wb_val, Fr.wb_ref, Fr.e_fn, Fr.rdR_val, Fr.e_meth, Fr.e_ownAt, Fr.tyK_list, Fr.tyK_str, Fr.e_mM, Fr.mutK_some, Fr.e_mut, Fr.e_sl, Fr.e_pno, Fr.toI_int, Fr.e_pI, Fr.itK_some, Fr.seqD_list, Fr.seqD_tuple, Fr.e_iQ, Fr.e_for, Fr.e_lc, Fr.e_gN, Fr.e_gT, Fr.e_gsNil, Fr.e_gsCons, Fr.freeB_none, Fr.freeB_val, Fr.freeB_own, Fr.e_okSet, Fr.e_next, Fr.e_brk, Fr.e_cont, Fr.seqK_next, Fr.seqK_ret, Fr.seqK_brk, Fr.seqK_cont, Fr.e_seq, Fr.e_if, Fr.retK_val, Fr.retK_own, Fr.retK_ref, Fr.e_ret, Fr.e_expr, Fr.e_setV, Fr.ownR_own, Fr.e_setO, Fr.outK_some, Fr.e_sTup, Fr.e_noX, Fr.e_prp, Fr.newO_ok, Fr.e_new, Fr.optK_some, Fr.optK_none, Fr.e_fldO, Fr.idxS_str, Fr.idxR_tup, Fr.idxR_list, Fr.e_idx, Fr.e_get2, Fr.toV_b, Fr.e_inO, Fr.e_frzE, Fr.e_sfrz, Fr.e_fzBt, Fr.e_fzBf, Fr.e_par2, Fr.e_outO, Fr.setR_val, Fr.setR_own, Fr.e_dnil, Fr.e_dcons, Fr.e_disp, Fr.e_isi, Fr.e_isi2, Fr.isiK_int, Fr.isiK_str, Fr.isiK_tup, Fr.isiK_lst, Fr.isiK_non, Fr.isiK2_tup, Fr.isiK2_lst, Fr.isiB_ii, Fr.isiB_bi, Fr.isiB_ti, Fr.isiB_si, Fr.isiB_tt, Fr.isiB_ts, Fr.isiB_ss, Fr.isiB_st, Fr.isiB_lt, Fr.isiB_ll, Fr.isiB_tl, Fr.isiB_tn, Fr.isiB_sn, Fr.one1_val, Fr.enK_list, Fr.enK_tup, Fr.e_iE, Fr.e_iR1, Fr.o_ltI, Fr.o_leI, Fr.o_gtI, Fr.o_geI, Fr.o_eqI, Fr.o_neI, Fr.o_eqS, Fr.o_neS, Fr.o_addI, Fr.o_subI, Fr.o_ixL, Fr.o_ixT, Fr.at0, Fr.at1, Fr.at2, Fr.at3, Fr.o_isNn, Fr.o_lenL, Fr.o_lenT, Fr.o_tupL, Fr.o_tupT, Fr.o_lstL, Fr.o_lstT, Fr.retO_ret, Fr.retO_next, Fr.retO_bad, Fr.retO_ite, Fr.e_run, Fr.outE_nil, Fr.outE_val, Fr.outE_own, Fr.l_map0, Fr.l_map, Fr.l_app0, Fr.l_app1, Fr.l_app, Fr.l_rep0, Fr.l_rep, Fr.l_set0, Fr.l_set, Fr.l_len0, Fr.l_len, Fr.l_tk0, Fr.l_tk, Fr.o_map, Fr.o_bind, Fr.b_and1, Fr.b_and0, Fr.b_or1, Fr.b_or0, Fr.b_andr, Fr.b_not1, Fr.b_not0, Fr.b_nef, Fr.b_net, Fr.o_none1, Fr.o_none2, Fr.size_0, Fr.d_true, Fr.d_false, Fr.b_tt, Fr.b_ft, Fr.wipe_nil, Fr.wipe_one, Fr.back_nil, Fr.back_one, Fr.e_yes, ↓reduceIte, Nat.reduceSub, Nat.reduceAdd, Nat.reduceLeDiff, Nat.reduceLT, Nat.reduceEqDiff, Int.reduceLT, Int.reduceLE, Int.reduceEq, Int.reduceAdd, Int.reduceSub, Int.reduceNeg, reduceCtorEq, $xs,*] $[$l:location]?)
theorem take_is : m__law_take = Fr.m_take := rfl
theorem take_ex {n : Nat} {d : D} {many : Int} (h : Bg n d) (hn : n ≤ 1000000) (h0 : 0 < many) (h1 : many < 2 ^ 100) : ∃ v d', m__law_take [some (.own d), some (.val (.int many))] = .ok (.val (.int v), [some (.own d'), some (.val (.int many))]) ∧ 0 ≤ v ∧ v < many ∧ Bg (n + 1) d' := by
  obtain ⟨x, e, v, d', rfl, h2, h3, h4⟩ := (take_ok (Q := fun x => ∃ v d', x = (.val (.int v), [some (.own d'), some (.val (.int many))]) ∧ 0 ≤ v ∧ v < many ∧ Bg (n + 1) d') h hn h0 h1 fun v d' h2 h3 h4 => ⟨v, d', rfl, h2, h3, h4⟩).ex
  exact ⟨v, d', by rw [take_is]; exact e, h2, h3, h4⟩
theorem at_mem {α : Type} {ts : List α} {v : Int} (h0 : 0 ≤ v) (h1 : v < (ts.length : Nat)) : ∃ (j : Nat) (t : α), v = (j : Nat) ∧ ts[j]? = some t := by
  obtain ⟨j, rfl⟩ := Int.eq_ofNat_of_zero_le h0
  exact ⟨j, ts[j]'(by omega), rfl, List.getElem?_eq_getElem _⟩
theorem one_ex {α : Type} {n : Nat} {d : D} (ts : List α) (enc : α → D) (h : Bg n d) (hn : n ≤ 1000000) (h0 : 0 < ts.length) (h1 : ts.length ≤ 1000000) : ∃ t d', t ∈ ts ∧ m__law_one [some (.own d), some (.val (.list (ts.map enc)))] = .ok (.val (enc t), [some (.own d'), some (.val (.list (ts.map enc)))]) ∧ Bg (n + 1) d' := by
  obtain ⟨v, d', e, h2, h3, h4⟩ := take_ex (many := (ts.length : Nat)) h hn (by omega) (by omega)
  obtain ⟨j, t, rfl, hj⟩ := at_mem h2 h3
  refine ⟨t, d', List.mem_of_getElem? hj, ?_, h4⟩
  have ea : atI (ts.map enc) (j : Int) = some (enc t) := atI_get (by rw [List.getElem?_map, hj]; rfl)
  simp_arith only [m__law_one, b__law_one, List.length_map, e, ea]
/-! ### the bag -/
theorem bag_ex (ns : List Int) (hl : ns.length ≤ 63) : ∃ d, m__law_bag [some (.val (scrD ns))] = .ok (.own d, [some (.val (scrD ns))]) ∧ Bg 0 d := by
  have hw : W (m__law_bag [some (.val (scrD ns))]) fun x => x.2 = [some (.val (scrD ns))] ∧ ∃ d, x.1 = .own d ∧ Bg 0 d := by
    have e1 : slD (scrD ns) none (some 63) = some (.own (.list (cutD (ns.map .int) none (some 63)))) := rfl
    have e2 : cutD (ns.map PyData.int) none (some 63) = ns.map PyData.int := by
      have hl' : (ns.map PyData.int).length ≤ 63 := by simpa using hl
      unfold cutD
      rw [HT.sIx_none, show (some (63 : Int)) = some ((63 : Nat) : Int) from rfl, HT.sIx_nat]
      rw [List.drop_zero, List.take_of_length_le (by omega)]
    simp_arith only [m__law_bag, b__law_bag, e1, e2]
    refine w_retb (w_lcM ns PyData.int (fun i => .int (if i < 0 then -i else i)) (by omega) (fun i hi => ?_) ?_)
    · simp_arith only [lcStep, absD, one, absD1]
    · have es : (4 ≤ sizeLine) = True := eq_true (by rw [sizeLine_eq]; decide)
      simp_arith only [es]
      refine .ok ⟨rfl, _, rfl, 0, 1234567891, 0, ns.map (fun i => if i < 0 then -i else i), ?_, by omega, by omega, by omega, by omega, by omega, fun x hx => ?_⟩
      · unfold bagD; rw [List.map_map]; rfl
      · obtain ⟨i, _, rfl⟩ := List.mem_map.mp hx
        split <;> omega
  obtain ⟨⟨r, ρ⟩, e, rfl, d, rfl, b⟩ := hw.ex
  exact ⟨d, e, b⟩
/-! ### worlds -/
structure PtOk (p : Str) (n k : Nat) : Prop where
  ex : ∃ a b : Str, ixA (.str p) (.int 0) = some (.val (.str a)) ∧ intD [.str a] = some (.val (.int n)) ∧ ixA (.str p) (.int 1) = some (.val (.str b)) ∧ intD [.str b] = some (.val (.int k))
  n1 : 1 ≤ n
  n3 : n ≤ 3
  k1 : 1 ≤ k
  kn : k ≤ n
theorem int_dig {z : Str} {n : Int} (h : PySem.intText? z = some n) (hl : z.length ≤ 640) : intD [.str z] = some (.val (.int n)) := by
  simp only [intD, one, intD1, h, if_pos hl]
theorem dig1 : intD [.str "1"] = some (.val (.int (1 : Nat))) := int_dig (by decide +kernel) (by decide)
theorem dig2 : intD [.str "2"] = some (.val (.int (2 : Nat))) := int_dig (by decide +kernel) (by decide)
theorem dig3 : intD [.str "3"] = some (.val (.int (3 : Nat))) := int_dig (by decide +kernel) (by decide)
theorem dig4 : intD [.str "4"] = some (.val (.int (4 : Nat))) := int_dig (by decide +kernel) (by decide)
theorem pt11 : PtOk "11" 1 1 := ⟨⟨"1", "1", rfl, dig1, rfl, dig1⟩, by decide, by decide, by decide, by decide⟩
theorem pt21 : PtOk "21" 2 1 := ⟨⟨"2", "1", rfl, dig2, rfl, dig1⟩, by decide, by decide, by decide, by decide⟩
theorem pt22 : PtOk "22" 2 2 := ⟨⟨"2", "2", rfl, dig2, rfl, dig2⟩, by decide, by decide, by decide, by decide⟩
theorem pt31 : PtOk "31" 3 1 := ⟨⟨"3", "1", rfl, dig3, rfl, dig1⟩, by decide, by decide, by decide, by decide⟩
theorem pt32 : PtOk "32" 3 2 := ⟨⟨"3", "2", rfl, dig3, rfl, dig2⟩, by decide, by decide, by decide, by decide⟩
theorem pt33 : PtOk "33" 3 3 := ⟨⟨"3", "3", rfl, dig3, rfl, dig3⟩, by decide, by decide, by decide, by decide⟩
theorem small_line {n : Nat} (h : n ≤ 100) : n ≤ sizeLine := by rw [sizeLine_eq]; omega
end Sh
namespace Sh
open PySem L2 Fr
local macro_rules
  | `(tactic| simp_arith only [$xs,*] $[$l:location]?) => `(tactic| simp -dsimp -implicitDefEqProofs only [Fr.bnd_ok, Fr.bnd_bad, Fr.bnd_ex, Fr.bnd_bnd, Fr.bnd_ite, Fr.e_fzO, Fr.e_fzv, Fr.e_fzo, Fr.e_fzr, Fr.e_fzs, Fr.e_var0, Fr.look_zero, Fr.look_succ, Fr.e_var, Fr.atV_val, Fr.atV_own, Fr.e_c, Fr.e_giv, Fr.e_rvv, Fr.e_rvo, Fr.own1_own, Fr.e_rd1v, Fr.e_rd1r, Fr.e_m2, Fr.e_m1, Fr.toB_bool, Fr.e_mB, Fr.e_and, Fr.e_or, Fr.e_not, Fr.e_andV, Fr.e_orV, Fr.e_notV, Fr.e_ite, Fr.chB_b, Fr.e_ch, Fr.e_anil, Fr.e_acons, Fr.rds_nil, Fr.rds_cons, Fr.e_mN, Fr.valsK_nil, Fr.valsK_cons, Fr.e_tup, Fr.e_lst, Fr.fin_val, Fr.fin_own, Fr.fin_ex, Fr.e_callF, Fr.nd_nil, Fr.nd_val, Fr.nd_ref, Fr.pos_nil, Fr.pos_val, Fr.pos_ref, Fr.arg_val, Fr.own2_own, Fr.arg_ref, Fr.wb_nil, Fr.wb_val, Fr.wb_ref, Fr.e_fn, Fr.rdR_val, Fr.e_meth, Fr.e_ownAt, Fr.tyK_list, Fr.tyK_str, Fr.e_mM, Fr.mutK_some, Fr.e_mut, Fr.e_sl, Fr.e_pno, Fr.toI_int, Fr.e_pI, Fr.itK_some, Fr.seqD_list, Fr.seqD_tuple, Fr.e_iQ, Fr.e_for, Fr.e_lc, Fr.e_gN, Fr.e_gT, Fr.e_gsNil, Fr.e_gsCons, Fr.freeB_none, Fr.freeB_val, Fr.freeB_own, Fr.e_okSet, Fr.e_next, Fr.e_brk, Fr.e_cont, Fr.seqK_next, Fr.seqK_ret, Fr.seqK_brk, Fr.seqK_cont, Fr.e_seq, Fr.e_if, Fr.retK_val, Fr.retK_own, Fr.retK_ref, Fr.e_ret, Fr.e_expr, Fr.e_setV, Fr.ownR_own, Fr.e_setO, Fr.outK_some, Fr.e_sTup, Fr.e_noX, Fr.e_prp, Fr.newO_ok, Fr.e_new, Fr.optK_some, Fr.optK_none, Fr.e_fldO, Fr.idxS_str, Fr.idxR_tup, Fr.idxR_list, Fr.e_idx, Fr.e_get2, Fr.toV_b, Fr.e_inO, Fr.e_frzE, Fr.e_sfrz, Fr.e_fzBt, Fr.e_fzBf, Fr.e_par2, Fr.e_outO, Fr.setR_val, Fr.setR_own, Fr.e_dnil, Fr.e_dcons, Fr.e_disp, Fr.e_isi, Fr.e_isi2, Fr.isiK_int, Fr.isiK_str, Fr.isiK_tup, Fr.isiK_lst, Fr.isiK_non, Fr.isiK2_tup, Fr.isiK2_lst, Fr.isiB_ii, Fr.isiB_bi, Fr.isiB_ti, Fr.isiB_si, Fr.isiB_tt, Fr.isiB_ts, Fr.isiB_ss, Fr.isiB_st, Fr.isiB_lt, Fr.isiB_ll, Fr.isiB_tl, Fr.isiB_tn, Fr.isiB_sn, Fr.one1_val, Fr.enK_list, Fr.enK_tup, Fr.e_iE, Fr.e_iR1, Fr.o_ltI, Fr.o_leI, Fr.o_gtI, Fr.o_geI, Fr.o_eqI, Fr.o_neI, Fr.o_eqS, Fr.o_neS, Fr.o_addI, Fr.o_subI, Fr.o_ixL, Fr.o_ixT, Fr.at0, Fr.at1, Fr.at2, Fr.at3, Fr.o_isNn, Fr.o_lenL, Fr.o_lenT, Fr.o_tupL, Fr.o_tupT, Fr.o_lstL, Fr.o_lstT, Fr.retO_ret, Fr.retO_next, Fr.retO_bad, Fr.retO_ite, Fr.e_run, Fr.outE_nil, Fr.outE_val, Fr.outE_own, Fr.l_map0, Fr.l_map, Fr.l_app0, Fr.l_app1, Fr.l_app, Fr.l_rep0, Fr.l_rep, Fr.l_set0, Fr.l_set, Fr.l_len0, Fr.l_len, Fr.l_tk0, Fr.l_tk, Fr.o_map, Fr.o_bind, Fr.b_and1, Fr.b_and0, Fr.b_or1, Fr.b_or0, Fr.b_andr, Fr.b_not1, Fr.b_not0, Fr.b_nef, Fr.b_net, Fr.o_none1, Fr.o_none2, Fr.size_0, Fr.d_true, Fr.d_false, Fr.b_tt, Fr.b_ft, Fr.wipe_nil, Fr.wipe_one, Fr.back_nil, Fr.back_one, Fr.e_yes, ↓reduceIte, Nat.reduceSub, Nat.reduceAdd, Nat.reduceLeDiff, Nat.reduceLT, Nat.reduceEqDiff, Int.reduceLT, Int.reduceLE, Int.reduceEq, Int.reduceAdd, Int.reduceSub, Int.reduceNeg, reduceCtorEq, $xs,*] $[$l:location]?)
theorem w_forJ {ρ : EV} {g : Tgm} {body : EV → Out (Fl × EV)} {Q : Fl × EV → Prop} {ds : List D} (I : Nat → EV → Prop) (h0 : I 0 ρ)
    (step : ∀ (j : Nat) (d : D) (ρ1 : EV) (Q' : Fl × EV → Prop), ds[j]? = some d → I j ρ1 → (∀ ρ2, I (j + 1) ρ2 → Q' (.next, ρ2)) → (∀ r ρ2, Q (.ret r, ρ2) → Q' (.ret r, ρ2)) → W (optK body (g d ρ1)) Q')
    (fin : ∀ ρ1, I ds.length ρ1 → Q (.next, ρ1)) : W (loopG g body ds ρ) Q :=
  w_forI I h0 (fun j d ρ1 hd hi => step j d ρ1 _ hd hi (fun _ h => h) (fun _ _ h => h)) fin
theorem w_lcJ {ρ : EV} {g : Tgm} {vs : List Nat} {mt : EV → Out (Bool × EV)} {me : EV → Out (Rv × EV)} {Q : Rv × EV → Prop} {ds : List D} (I : Nat → List D → EV → Prop) (h0 : I 0 [] ρ) (hl : ds.length ≤ 1000000)
    (step : ∀ (j : Nat) (d : D) (acc : List D) (ρ1 : EV) (Q' : Option D × EV → Prop), ds[j]? = some d → I j acc ρ1 → (∀ o ρ2, I (j + 1) (acc ++ o.toList) ρ2 → Q' (o, ρ2)) → W (lcStep g vs mt me d ρ1) Q')
    (fin : ∀ acc ρ1, I ds.length acc ρ1 → Q (.own (.list acc), ρ1)) : W (lcGo g vs mt me ds [] ρ) Q :=
  w_lcI I h0 hl (fun j d acc ρ1 hd hi => step j d acc ρ1 _ hd hi (fun _ _ h => h)) fin
theorem eraseIdx_map {α β : Type} (f : α → β) : ∀ (xs : List α) (j : Nat), (xs.map f).eraseIdx j = (xs.eraseIdx j).map f
  | [], _ => by simp
  | _ :: _, 0 => by simp
  | x :: xs, j + 1 => by simp [eraseIdx_map f xs j]
theorem pop_ex {ys : List Str} {v : Int} (h0 : 0 ≤ v) (h1 : v < (ys.length : Nat)) (hl : ys.length ≤ 1000) : ∃ (k : Nat) (y : Str), ys[k]? = some y ∧ uPopAt (.list (ys.map .str)) [.int v] = some (.list ((ys.eraseIdx k).map .str), .str y) := by
  obtain ⟨j, y, rfl, hj⟩ := at_mem h0 h1
  refine ⟨j, y, hj, ?_⟩
  have hlt := (List.getElem?_eq_some_iff.mp hj).1
  have es : seqIndex? ((j : Nat) : Int) (ys.map PyData.str).length = some j := by
    unfold seqIndex?
    rw [List.length_map]
    simp
    omega
  simp only [uPopAt]
  rw [if_pos (by omega), es]
  dsimp only
  rw [List.getElem?_map, hj]
  dsimp only [Option.map]
  rw [eraseIdx_map]
theorem cut1 {x : D} {xs : List D} : cutD (x :: xs) (some 1) none = xs := by
  unfold cutD
  rw [HT.sIx_none, show (some (1 : Int)) = some ((1 : Nat) : Int) from rfl, HT.sIx_nat]
  simp
theorem disp4 (a b c e : D) : keysD [(.str "size", a), (.str "tables", b), (.str "rules", c), (.str "pairs", e)] = some [(.inr "size", a), (.inr "tables", b), (.inr "rules", c), (.inr "pairs", e)] := rfl
theorem merge4 (a b c e : D) : encK (mergeA [] [((.inr "size" : L2.Key), a), (.inr "tables", b), (.inr "rules", c), (.inr "pairs", e)]) = [(.str "size", a), (.str "tables", b), (.str "rules", c), (.str "pairs", e)] := rfl
theorem app_ok {xs : List D} {y : D} (h : xs.length ≤ 1000) : uAppend (.list xs) [y] = some (.list (xs ++ [y]), .none) := by
  simp only [uAppend]; rw [if_pos (by rw [sizeLine_eq]; omega)]
theorem rgK_small {ρ : EV} {n : Nat} (h : n ≤ 1000000) : rgK ρ (.int (n : Nat)) = .ok (rngD 0 n, ρ) := by
  rw [rgK_int, if_pos ⟨by omega, by omega⟩]; rfl
theorem tb_nd : tbNames.Nodup := by decide +kernel
theorem co_nd : coNames.Nodup := by decide +kernel
theorem sz3 : (3 ≤ sizeLine) = True := eq_true (by rw [sizeLine_eq]; decide)
theorem sz6 : (6 ≤ sizeLine) = True := eq_true (by rw [sizeLine_eq]; decide)
end Sh
namespace Sh
open PySem L2 Fr
local macro_rules
  | `(tactic| simp_arith only [$xs,*] $[$l:location]?) => `(tactic| simp -dsimp -implicitDefEqProofs only [Fr.bnd_ok, Fr.bnd_bad, Fr.bnd_ex, Fr.bnd_bnd, Fr.bnd_ite, Fr.e_fzO, Fr.e_fzv, Fr.e_fzo, Fr.e_fzr, Fr.e_fzs, Fr.e_var0, Fr.look_zero, Fr.look_succ, Fr.e_var, Fr.atV_val, Fr.atV_own, Fr.e_c, Fr.e_giv, Fr.e_rvv, Fr.e_rvo, Fr.own1_own, Fr.e_rd1v, Fr.e_rd1r, Fr.e_m2, Fr.e_m1, Fr.toB_bool, Fr.e_mB, Fr.e_and, Fr.e_or, Fr.e_not, Fr.e_andV, Fr.e_orV, Fr.e_notV, Fr.e_ite, Fr.chB_b, Fr.e_ch, Fr.e_anil, Fr.e_acons, Fr.rds_nil, Fr.rds_cons, Fr.e_mN, Fr.valsK_nil, Fr.valsK_cons, Fr.e_tup, Fr.e_lst, Fr.fin_val, Fr.fin_own, Fr.fin_ex, Fr.e_callF, Fr.nd_nil, Fr.nd_val, Fr.nd_ref, Fr.pos_nil, Fr.pos_val, Fr.pos_ref, Fr.arg_val, Fr.own2_own, Fr.arg_ref, Fr.wb_nil, Fr.wb_val, Fr.wb_ref, Fr.e_fn, Fr.rdR_val, Fr.e_meth, Fr.e_ownAt, Fr.tyK_list, Fr.tyK_str, Fr.e_mM, Fr.mutK_some, Fr.e_mut, Fr.e_sl, Fr.e_pno, Fr.toI_int, Fr.e_pI, Fr.itK_some, Fr.seqD_list, Fr.seqD_tuple, Fr.e_iQ, Fr.e_for, Fr.e_lc, Fr.e_gN, Fr.e_gT, Fr.e_gsNil, Fr.e_gsCons, Fr.freeB_none, Fr.freeB_val, Fr.freeB_own, Fr.e_okSet, Fr.e_next, Fr.e_brk, Fr.e_cont, Fr.seqK_next, Fr.seqK_ret, Fr.seqK_brk, Fr.seqK_cont, Fr.e_seq, Fr.e_if, Fr.retK_val, Fr.retK_own, Fr.retK_ref, Fr.e_ret, Fr.e_expr, Fr.e_setV, Fr.ownR_own, Fr.e_setO, Fr.outK_some, Fr.e_sTup, Fr.e_noX, Fr.e_prp, Fr.newO_ok, Fr.e_new, Fr.optK_some, Fr.optK_none, Fr.e_fldO, Fr.idxS_str, Fr.idxR_tup, Fr.idxR_list, Fr.e_idx, Fr.e_get2, Fr.toV_b, Fr.e_inO, Fr.e_frzE, Fr.e_sfrz, Fr.e_fzBt, Fr.e_fzBf, Fr.e_par2, Fr.e_outO, Fr.setR_val, Fr.setR_own, Fr.e_dnil, Fr.e_dcons, Fr.e_disp, Fr.e_isi, Fr.e_isi2, Fr.isiK_int, Fr.isiK_str, Fr.isiK_tup, Fr.isiK_lst, Fr.isiK_non, Fr.isiK2_tup, Fr.isiK2_lst, Fr.isiB_ii, Fr.isiB_bi, Fr.isiB_ti, Fr.isiB_si, Fr.isiB_tt, Fr.isiB_ts, Fr.isiB_ss, Fr.isiB_st, Fr.isiB_lt, Fr.isiB_ll, Fr.isiB_tl, Fr.isiB_tn, Fr.isiB_sn, Fr.one1_val, Fr.enK_list, Fr.enK_tup, Fr.e_iE, Fr.e_iR1, Fr.o_ltI, Fr.o_leI, Fr.o_gtI, Fr.o_geI, Fr.o_eqI, Fr.o_neI, Fr.o_eqS, Fr.o_neS, Fr.o_addI, Fr.o_subI, Fr.o_ixL, Fr.o_ixT, Fr.at0, Fr.at1, Fr.at2, Fr.at3, Fr.o_isNn, Fr.o_lenL, Fr.o_lenT, Fr.o_tupL, Fr.o_tupT, Fr.o_lstL, Fr.o_lstT, Fr.retO_ret, Fr.retO_next, Fr.retO_bad, Fr.retO_ite, Fr.e_run, Fr.outE_nil, Fr.outE_val, Fr.outE_own, Fr.l_map0, Fr.l_map, Fr.l_app0, Fr.l_app1, Fr.l_app, Fr.l_rep0, Fr.l_rep, Fr.l_set0, Fr.l_set, Fr.l_len0, Fr.l_len, Fr.l_tk0, Fr.l_tk, Fr.o_map, Fr.o_bind, Fr.b_and1, Fr.b_and0, Fr.b_or1, Fr.b_or0, Fr.b_andr, Fr.b_not1, Fr.b_not0, Fr.b_nef, Fr.b_net, Fr.o_none1, Fr.o_none2, Fr.size_0, Fr.d_true, Fr.d_false, Fr.b_tt, Fr.b_ft, Fr.wipe_nil, Fr.wipe_one, Fr.back_nil, Fr.back_one, Fr.e_yes, ↓reduceIte, Nat.reduceSub, Nat.reduceAdd, Nat.reduceLeDiff, Nat.reduceLT, Nat.reduceEqDiff, Int.reduceLT, Int.reduceLE, Int.reduceEq, Int.reduceAdd, Int.reduceSub, Int.reduceNeg, reduceCtorEq, $xs,*] $[$l:location]?)
/-! ### terms -/
inductive Tm
  | val (v : Nat)
  | at (nw : Bool) (c : Str)
def TmIn (w : Wd) (ts : List Tm) (t : Tm) : Prop := t ∈ ts ∨ ∃ v, v < w.size ∧ t = .val v
def TmG : Tm → Prop
  | .val v => v < 100
  | .at _ c => c ∈ coNames
theorem TmIn.g {w : Wd} (ok : w.Ok) {ts : List Tm} (hg : ∀ t ∈ ts, TmG t) {t : Tm} (h : TmIn w ts t) : TmG t := by
  rcases h with h | ⟨v, h, rfl⟩
  · exact hg t h
  · have := ok.s4; show v < 100; omega
end Sh
namespace Sh
open PySem L2 Fr
local macro_rules
  | `(tactic| simp_arith only [$xs,*] $[$l:location]?) => `(tactic| simp -dsimp -implicitDefEqProofs only [Fr.bnd_ok, Fr.bnd_bad, Fr.bnd_ex, Fr.bnd_bnd, Fr.bnd_ite, Fr.e_fzO, Fr.e_fzv, Fr.e_fzo, Fr.e_fzr, Fr.e_fzs, Fr.e_var0, Fr.look_zero, Fr.look_succ, Fr.e_var, Fr.atV_val, Fr.atV_own, Fr.e_c, Fr.e_giv, Fr.e_rvv, Fr.e_rvo, Fr.own1_own, Fr.e_rd1v, Fr.e_rd1r, Fr.e_m2, Fr.e_m1, Fr.toB_bool, Fr.e_mB, Fr.e_and, Fr.e_or, Fr.e_not, Fr.e_andV, Fr.e_orV, Fr.e_notV, Fr.e_ite, Fr.chB_b, Fr.e_ch, Fr.e_anil, Fr.e_acons, Fr.rds_nil, Fr.rds_cons, Fr.e_mN, Fr.valsK_nil, Fr.valsK_cons, Fr.e_tup, Fr.e_lst, Fr.fin_val, Fr.fin_own, Fr.fin_ex, Fr.e_callF, Fr.nd_nil, Fr.nd_val, Fr.nd_ref, Fr.pos_nil, Fr.pos_val, Fr.pos_ref, Fr.arg_val, Fr.own2_own, Fr.arg_ref, Fr.wb_nil, Fr.wb_val, Fr.wb_ref, Fr.e_fn, Fr.rdR_val, Fr.e_meth, Fr.e_ownAt, Fr.tyK_list, Fr.tyK_str, Fr.e_mM, Fr.mutK_some, Fr.e_mut, Fr.e_sl, Fr.e_pno, Fr.toI_int, Fr.e_pI, Fr.itK_some, Fr.seqD_list, Fr.seqD_tuple, Fr.e_iQ, Fr.e_for, Fr.e_lc, Fr.e_gN, Fr.e_gT, Fr.e_gsNil, Fr.e_gsCons, Fr.freeB_none, Fr.freeB_val, Fr.freeB_own, Fr.e_okSet, Fr.e_next, Fr.e_brk, Fr.e_cont, Fr.seqK_next, Fr.seqK_ret, Fr.seqK_brk, Fr.seqK_cont, Fr.e_seq, Fr.e_if, Fr.retK_val, Fr.retK_own, Fr.retK_ref, Fr.e_ret, Fr.e_expr, Fr.e_setV, Fr.ownR_own, Fr.e_setO, Fr.outK_some, Fr.e_sTup, Fr.e_noX, Fr.e_prp, Fr.newO_ok, Fr.e_new, Fr.optK_some, Fr.optK_none, Fr.e_fldO, Fr.idxS_str, Fr.idxR_tup, Fr.idxR_list, Fr.e_idx, Fr.e_get2, Fr.toV_b, Fr.e_inO, Fr.e_frzE, Fr.e_sfrz, Fr.e_fzBt, Fr.e_fzBf, Fr.e_par2, Fr.e_outO, Fr.setR_val, Fr.setR_own, Fr.e_dnil, Fr.e_dcons, Fr.e_disp, Fr.e_isi, Fr.e_isi2, Fr.isiK_int, Fr.isiK_str, Fr.isiK_tup, Fr.isiK_lst, Fr.isiK_non, Fr.isiK2_tup, Fr.isiK2_lst, Fr.isiB_ii, Fr.isiB_bi, Fr.isiB_ti, Fr.isiB_si, Fr.isiB_tt, Fr.isiB_ts, Fr.isiB_ss, Fr.isiB_st, Fr.isiB_lt, Fr.isiB_ll, Fr.isiB_tl, Fr.isiB_tn, Fr.isiB_sn, Fr.one1_val, Fr.enK_list, Fr.enK_tup, Fr.e_iE, Fr.e_iR1, Fr.o_ltI, Fr.o_leI, Fr.o_gtI, Fr.o_geI, Fr.o_eqI, Fr.o_neI, Fr.o_eqS, Fr.o_neS, Fr.o_addI, Fr.o_subI, Fr.o_ixL, Fr.o_ixT, Fr.at0, Fr.at1, Fr.at2, Fr.at3, Fr.o_isNn, Fr.o_lenL, Fr.o_lenT, Fr.o_tupL, Fr.o_tupT, Fr.o_lstL, Fr.o_lstT, Fr.retO_ret, Fr.retO_next, Fr.retO_bad, Fr.retO_ite, Fr.e_run, Fr.outE_nil, Fr.outE_val, Fr.outE_own, Fr.l_map0, Fr.l_map, Fr.l_app0, Fr.l_app1, Fr.l_app, Fr.l_rep0, Fr.l_rep, Fr.l_set0, Fr.l_set, Fr.l_len0, Fr.l_len, Fr.l_tk0, Fr.l_tk, Fr.o_map, Fr.o_bind, Fr.b_and1, Fr.b_and0, Fr.b_or1, Fr.b_or0, Fr.b_andr, Fr.b_not1, Fr.b_not0, Fr.b_nef, Fr.b_net, Fr.o_none1, Fr.o_none2, Fr.size_0, Fr.d_true, Fr.d_false, Fr.b_tt, Fr.b_ft, Fr.wipe_nil, Fr.wipe_one, Fr.back_nil, Fr.back_one, Fr.e_yes, ↓reduceIte, Nat.reduceSub, Nat.reduceAdd, Nat.reduceLeDiff, Nat.reduceLT, Nat.reduceEqDiff, Int.reduceLT, Int.reduceLE, Int.reduceEq, Int.reduceAdd, Int.reduceSub, Int.reduceNeg, reduceCtorEq, $xs,*] $[$l:location]?)
theorem o_mulI {a b : Int} (h : CMulW a b) : mulB (.int a) (.int b) = some (.val (.int (a * b))) := by
  unfold mulB; rw [mulA_int a b h]; rfl
/-! ### actions -/
inductive Ac
  | refuse
  | put (o : Bool) (t : Tb) (ts : List Tm)
  | del (t : Tb) (wh : List (Str × Tm))
  | upd (t : Tb) (wh se : List (Str × Tm))
structure PsOk (w : Wd) (ts : List Tm) (t : Tb) (ps : List (Str × Tm)) : Prop where
  sub : (ps.map (·.1)).Sublist t.cols
  tm : ∀ p ∈ ps, TmIn w ts p.2
def AcOk (w : Wd) (ts : List Tm) : Ac → Prop
  | .refuse => True
  | .put _ t xs => t ∈ w.tabs ∧ xs.length = t.cols.length ∧ ∀ x ∈ xs, TmIn w ts x
  | .del t wh => t ∈ w.tabs ∧ PsOk w ts t wh
  | .upd t wh se => t ∈ w.tabs ∧ PsOk w ts t wh ∧ PsOk w ts t se ∧ se ≠ []
theorem PsOk.len {w : Wd} {ts : List Tm} {t : Tb} {ps : List (Str × Tm)} (h : PsOk w ts t ps) (tok : t.Ok) : ps.length ≤ 3 := by
  have := h.sub.length_le
  rw [List.length_map] at this
  have := tok.l3; omega
end Sh
namespace Sh
open PySem L2 Fr
local macro_rules
  | `(tactic| simp_arith only [$xs,*] $[$l:location]?) => `(tactic| simp -dsimp -implicitDefEqProofs only [Fr.bnd_ok, Fr.bnd_bad, Fr.bnd_ex, Fr.bnd_bnd, Fr.bnd_ite, Fr.e_fzO, Fr.e_fzv, Fr.e_fzo, Fr.e_fzr, Fr.e_fzs, Fr.e_var0, Fr.look_zero, Fr.look_succ, Fr.e_var, Fr.atV_val, Fr.atV_own, Fr.e_c, Fr.e_giv, Fr.e_rvv, Fr.e_rvo, Fr.own1_own, Fr.e_rd1v, Fr.e_rd1r, Fr.e_m2, Fr.e_m1, Fr.toB_bool, Fr.e_mB, Fr.e_and, Fr.e_or, Fr.e_not, Fr.e_andV, Fr.e_orV, Fr.e_notV, Fr.e_ite, Fr.chB_b, Fr.e_ch, Fr.e_anil, Fr.e_acons, Fr.rds_nil, Fr.rds_cons, Fr.e_mN, Fr.valsK_nil, Fr.valsK_cons, Fr.e_tup, Fr.e_lst, Fr.fin_val, Fr.fin_own, Fr.fin_ex, Fr.e_callF, Fr.nd_nil, Fr.nd_val, Fr.nd_ref, Fr.pos_nil, Fr.pos_val, Fr.pos_ref, Fr.arg_val, Fr.own2_own, Fr.arg_ref, Fr.wb_nil, Fr.wb_val, Fr.wb_ref, Fr.e_fn, Fr.rdR_val, Fr.e_meth, Fr.e_ownAt, Fr.tyK_list, Fr.tyK_str, Fr.e_mM, Fr.mutK_some, Fr.e_mut, Fr.e_sl, Fr.e_pno, Fr.toI_int, Fr.e_pI, Fr.itK_some, Fr.seqD_list, Fr.seqD_tuple, Fr.e_iQ, Fr.e_for, Fr.e_lc, Fr.e_gN, Fr.e_gT, Fr.e_gsNil, Fr.e_gsCons, Fr.freeB_none, Fr.freeB_val, Fr.freeB_own, Fr.e_okSet, Fr.e_next, Fr.e_brk, Fr.e_cont, Fr.seqK_next, Fr.seqK_ret, Fr.seqK_brk, Fr.seqK_cont, Fr.e_seq, Fr.e_if, Fr.retK_val, Fr.retK_own, Fr.retK_ref, Fr.e_ret, Fr.e_expr, Fr.e_setV, Fr.ownR_own, Fr.e_setO, Fr.outK_some, Fr.e_sTup, Fr.e_noX, Fr.e_prp, Fr.newO_ok, Fr.e_new, Fr.optK_some, Fr.optK_none, Fr.e_fldO, Fr.idxS_str, Fr.idxR_tup, Fr.idxR_list, Fr.e_idx, Fr.e_get2, Fr.toV_b, Fr.e_inO, Fr.e_frzE, Fr.e_sfrz, Fr.e_fzBt, Fr.e_fzBf, Fr.e_par2, Fr.e_outO, Fr.setR_val, Fr.setR_own, Fr.e_dnil, Fr.e_dcons, Fr.e_disp, Fr.e_isi, Fr.e_isi2, Fr.isiK_int, Fr.isiK_str, Fr.isiK_tup, Fr.isiK_lst, Fr.isiK_non, Fr.isiK2_tup, Fr.isiK2_lst, Fr.isiB_ii, Fr.isiB_bi, Fr.isiB_ti, Fr.isiB_si, Fr.isiB_tt, Fr.isiB_ts, Fr.isiB_ss, Fr.isiB_st, Fr.isiB_lt, Fr.isiB_ll, Fr.isiB_tl, Fr.isiB_tn, Fr.isiB_sn, Fr.one1_val, Fr.enK_list, Fr.enK_tup, Fr.e_iE, Fr.e_iR1, Fr.o_ltI, Fr.o_leI, Fr.o_gtI, Fr.o_geI, Fr.o_eqI, Fr.o_neI, Fr.o_eqS, Fr.o_neS, Fr.o_addI, Fr.o_subI, Fr.o_ixL, Fr.o_ixT, Fr.at0, Fr.at1, Fr.at2, Fr.at3, Fr.o_isNn, Fr.o_lenL, Fr.o_lenT, Fr.o_tupL, Fr.o_tupT, Fr.o_lstL, Fr.o_lstT, Fr.retO_ret, Fr.retO_next, Fr.retO_bad, Fr.retO_ite, Fr.e_run, Fr.outE_nil, Fr.outE_val, Fr.outE_own, Fr.l_map0, Fr.l_map, Fr.l_app0, Fr.l_app1, Fr.l_app, Fr.l_rep0, Fr.l_rep, Fr.l_set0, Fr.l_set, Fr.l_len0, Fr.l_len, Fr.l_tk0, Fr.l_tk, Fr.o_map, Fr.o_bind, Fr.b_and1, Fr.b_and0, Fr.b_or1, Fr.b_or0, Fr.b_andr, Fr.b_not1, Fr.b_not0, Fr.b_nef, Fr.b_net, Fr.o_none1, Fr.o_none2, Fr.size_0, Fr.d_true, Fr.d_false, Fr.b_tt, Fr.b_ft, Fr.wipe_nil, Fr.wipe_one, Fr.back_nil, Fr.back_one, Fr.e_yes, ↓reduceIte, Nat.reduceSub, Nat.reduceAdd, Nat.reduceLeDiff, Nat.reduceLT, Nat.reduceEqDiff, Int.reduceLT, Int.reduceLE, Int.reduceEq, Int.reduceAdd, Int.reduceSub, Int.reduceNeg, reduceCtorEq, $xs,*] $[$l:location]?)
def evs : List Str := ["insert", "delete", "update"]
def lvs : List Str := ["row", "statement"]
def wds (ev : Str) : List Bool := if ev = "insert" then [true] else if ev = "delete" then [false] else [false, true]
def trms (t : Tb) (ev lv : Str) : List Tm := if lv = "row" then (wds ev).flatMap (fun b => t.cols.map (Tm.at b)) else []
end Sh
namespace Sh
open PySem L2 Fr
local macro_rules
  | `(tactic| simp_arith only [$xs,*] $[$l:location]?) => `(tactic| simp -dsimp -implicitDefEqProofs only [Fr.bnd_ok, Fr.bnd_bad, Fr.bnd_ex, Fr.bnd_bnd, Fr.bnd_ite, Fr.e_fzO, Fr.e_fzv, Fr.e_fzo, Fr.e_fzr, Fr.e_fzs, Fr.e_var0, Fr.look_zero, Fr.look_succ, Fr.e_var, Fr.atV_val, Fr.atV_own, Fr.e_c, Fr.e_giv, Fr.e_rvv, Fr.e_rvo, Fr.own1_own, Fr.e_rd1v, Fr.e_rd1r, Fr.e_m2, Fr.e_m1, Fr.toB_bool, Fr.e_mB, Fr.e_and, Fr.e_or, Fr.e_not, Fr.e_andV, Fr.e_orV, Fr.e_notV, Fr.e_ite, Fr.chB_b, Fr.e_ch, Fr.e_anil, Fr.e_acons, Fr.rds_nil, Fr.rds_cons, Fr.e_mN, Fr.valsK_nil, Fr.valsK_cons, Fr.e_tup, Fr.e_lst, Fr.fin_val, Fr.fin_own, Fr.fin_ex, Fr.e_callF, Fr.nd_nil, Fr.nd_val, Fr.nd_ref, Fr.pos_nil, Fr.pos_val, Fr.pos_ref, Fr.arg_val, Fr.own2_own, Fr.arg_ref, Fr.wb_nil, Fr.wb_val, Fr.wb_ref, Fr.e_fn, Fr.rdR_val, Fr.e_meth, Fr.e_ownAt, Fr.tyK_list, Fr.tyK_str, Fr.e_mM, Fr.mutK_some, Fr.e_mut, Fr.e_sl, Fr.e_pno, Fr.toI_int, Fr.e_pI, Fr.itK_some, Fr.seqD_list, Fr.seqD_tuple, Fr.e_iQ, Fr.e_for, Fr.e_lc, Fr.e_gN, Fr.e_gT, Fr.e_gsNil, Fr.e_gsCons, Fr.freeB_none, Fr.freeB_val, Fr.freeB_own, Fr.e_okSet, Fr.e_next, Fr.e_brk, Fr.e_cont, Fr.seqK_next, Fr.seqK_ret, Fr.seqK_brk, Fr.seqK_cont, Fr.e_seq, Fr.e_if, Fr.retK_val, Fr.retK_own, Fr.retK_ref, Fr.e_ret, Fr.e_expr, Fr.e_setV, Fr.ownR_own, Fr.e_setO, Fr.outK_some, Fr.e_sTup, Fr.e_noX, Fr.e_prp, Fr.newO_ok, Fr.e_new, Fr.optK_some, Fr.optK_none, Fr.e_fldO, Fr.idxS_str, Fr.idxR_tup, Fr.idxR_list, Fr.e_idx, Fr.e_get2, Fr.toV_b, Fr.e_inO, Fr.e_frzE, Fr.e_sfrz, Fr.e_fzBt, Fr.e_fzBf, Fr.e_par2, Fr.e_outO, Fr.setR_val, Fr.setR_own, Fr.e_dnil, Fr.e_dcons, Fr.e_disp, Fr.e_isi, Fr.e_isi2, Fr.isiK_int, Fr.isiK_str, Fr.isiK_tup, Fr.isiK_lst, Fr.isiK_non, Fr.isiK2_tup, Fr.isiK2_lst, Fr.isiB_ii, Fr.isiB_bi, Fr.isiB_ti, Fr.isiB_si, Fr.isiB_tt, Fr.isiB_ts, Fr.isiB_ss, Fr.isiB_st, Fr.isiB_lt, Fr.isiB_ll, Fr.isiB_tl, Fr.isiB_tn, Fr.isiB_sn, Fr.one1_val, Fr.enK_list, Fr.enK_tup, Fr.e_iE, Fr.e_iR1, Fr.o_ltI, Fr.o_leI, Fr.o_gtI, Fr.o_geI, Fr.o_eqI, Fr.o_neI, Fr.o_eqS, Fr.o_neS, Fr.o_addI, Fr.o_subI, Fr.o_ixL, Fr.o_ixT, Fr.at0, Fr.at1, Fr.at2, Fr.at3, Fr.o_isNn, Fr.o_lenL, Fr.o_lenT, Fr.o_tupL, Fr.o_tupT, Fr.o_lstL, Fr.o_lstT, Fr.retO_ret, Fr.retO_next, Fr.retO_bad, Fr.retO_ite, Fr.e_run, Fr.outE_nil, Fr.outE_val, Fr.outE_own, Fr.l_map0, Fr.l_map, Fr.l_app0, Fr.l_app1, Fr.l_app, Fr.l_rep0, Fr.l_rep, Fr.l_set0, Fr.l_set, Fr.l_len0, Fr.l_len, Fr.l_tk0, Fr.l_tk, Fr.o_map, Fr.o_bind, Fr.b_and1, Fr.b_and0, Fr.b_or1, Fr.b_or0, Fr.b_andr, Fr.b_not1, Fr.b_not0, Fr.b_nef, Fr.b_net, Fr.o_none1, Fr.o_none2, Fr.size_0, Fr.d_true, Fr.d_false, Fr.b_tt, Fr.b_ft, Fr.wipe_nil, Fr.wipe_one, Fr.back_nil, Fr.back_one, Fr.e_yes, ↓reduceIte, Nat.reduceSub, Nat.reduceAdd, Nat.reduceLeDiff, Nat.reduceLT, Nat.reduceEqDiff, Int.reduceLT, Int.reduceLE, Int.reduceEq, Int.reduceAdd, Int.reduceSub, Int.reduceNeg, reduceCtorEq, $xs,*] $[$l:location]?)
structure Rl where
  nm : Str
  tb : Tb
  ev : Str
  cols : List Str
  wh : Str
  lv : Str
  tests : List D
  acts : List Ac
structure Rl.Ok (w : Wd) (r : Rl) : Prop where
  tb : r.tb ∈ w.tabs
  ev : r.ev ∈ evs
  lv : r.lv ∈ lvs
  co : r.cols.Sublist r.tb.cols
  te : ∀ q ∈ r.tests, Gd 60 4 q
  tl : r.tests.length ≤ 4
  ac : ∀ a ∈ r.acts, AcOk w (trms r.tb r.ev r.lv) a
  al : r.acts.length ≤ 3
end Sh
namespace Sh
open PySem L2 Fr
local macro_rules
  | `(tactic| simp_arith only [$xs,*] $[$l:location]?) => `(tactic| simp -dsimp -implicitDefEqProofs only [Fr.bnd_ok, Fr.bnd_bad, Fr.bnd_ex, Fr.bnd_bnd, Fr.bnd_ite, Fr.e_fzO, Fr.e_fzv, Fr.e_fzo, Fr.e_fzr, Fr.e_fzs, Fr.e_var0, Fr.look_zero, Fr.look_succ, Fr.e_var, Fr.atV_val, Fr.atV_own, Fr.e_c, Fr.e_giv, Fr.e_rvv, Fr.e_rvo, Fr.own1_own, Fr.e_rd1v, Fr.e_rd1r, Fr.e_m2, Fr.e_m1, Fr.toB_bool, Fr.e_mB, Fr.e_and, Fr.e_or, Fr.e_not, Fr.e_andV, Fr.e_orV, Fr.e_notV, Fr.e_ite, Fr.chB_b, Fr.e_ch, Fr.e_anil, Fr.e_acons, Fr.rds_nil, Fr.rds_cons, Fr.e_mN, Fr.valsK_nil, Fr.valsK_cons, Fr.e_tup, Fr.e_lst, Fr.fin_val, Fr.fin_own, Fr.fin_ex, Fr.e_callF, Fr.nd_nil, Fr.nd_val, Fr.nd_ref, Fr.pos_nil, Fr.pos_val, Fr.pos_ref, Fr.arg_val, Fr.own2_own, Fr.arg_ref, Fr.wb_nil, Fr.wb_val, Fr.wb_ref, Fr.e_fn, Fr.rdR_val, Fr.e_meth, Fr.e_ownAt, Fr.tyK_list, Fr.tyK_str, Fr.e_mM, Fr.mutK_some, Fr.e_mut, Fr.e_sl, Fr.e_pno, Fr.toI_int, Fr.e_pI, Fr.itK_some, Fr.seqD_list, Fr.seqD_tuple, Fr.e_iQ, Fr.e_for, Fr.e_lc, Fr.e_gN, Fr.e_gT, Fr.e_gsNil, Fr.e_gsCons, Fr.freeB_none, Fr.freeB_val, Fr.freeB_own, Fr.e_okSet, Fr.e_next, Fr.e_brk, Fr.e_cont, Fr.seqK_next, Fr.seqK_ret, Fr.seqK_brk, Fr.seqK_cont, Fr.e_seq, Fr.e_if, Fr.retK_val, Fr.retK_own, Fr.retK_ref, Fr.e_ret, Fr.e_expr, Fr.e_setV, Fr.ownR_own, Fr.e_setO, Fr.outK_some, Fr.e_sTup, Fr.e_noX, Fr.e_prp, Fr.newO_ok, Fr.e_new, Fr.optK_some, Fr.optK_none, Fr.e_fldO, Fr.idxS_str, Fr.idxR_tup, Fr.idxR_list, Fr.e_idx, Fr.e_get2, Fr.toV_b, Fr.e_inO, Fr.e_frzE, Fr.e_sfrz, Fr.e_fzBt, Fr.e_fzBf, Fr.e_par2, Fr.e_outO, Fr.setR_val, Fr.setR_own, Fr.e_dnil, Fr.e_dcons, Fr.e_disp, Fr.e_isi, Fr.e_isi2, Fr.isiK_int, Fr.isiK_str, Fr.isiK_tup, Fr.isiK_lst, Fr.isiK_non, Fr.isiK2_tup, Fr.isiK2_lst, Fr.isiB_ii, Fr.isiB_bi, Fr.isiB_ti, Fr.isiB_si, Fr.isiB_tt, Fr.isiB_ts, Fr.isiB_ss, Fr.isiB_st, Fr.isiB_lt, Fr.isiB_ll, Fr.isiB_tl, Fr.isiB_tn, Fr.isiB_sn, Fr.one1_val, Fr.enK_list, Fr.enK_tup, Fr.e_iE, Fr.e_iR1, Fr.o_ltI, Fr.o_leI, Fr.o_gtI, Fr.o_geI, Fr.o_eqI, Fr.o_neI, Fr.o_eqS, Fr.o_neS, Fr.o_addI, Fr.o_subI, Fr.o_ixL, Fr.o_ixT, Fr.at0, Fr.at1, Fr.at2, Fr.at3, Fr.o_isNn, Fr.o_lenL, Fr.o_lenT, Fr.o_tupL, Fr.o_tupT, Fr.o_lstL, Fr.o_lstT, Fr.retO_ret, Fr.retO_next, Fr.retO_bad, Fr.retO_ite, Fr.e_run, Fr.outE_nil, Fr.outE_val, Fr.outE_own, Fr.l_map0, Fr.l_map, Fr.l_app0, Fr.l_app1, Fr.l_app, Fr.l_rep0, Fr.l_rep, Fr.l_set0, Fr.l_set, Fr.l_len0, Fr.l_len, Fr.l_tk0, Fr.l_tk, Fr.o_map, Fr.o_bind, Fr.b_and1, Fr.b_and0, Fr.b_or1, Fr.b_or0, Fr.b_andr, Fr.b_not1, Fr.b_not0, Fr.b_nef, Fr.b_net, Fr.o_none1, Fr.o_none2, Fr.size_0, Fr.d_true, Fr.d_false, Fr.b_tt, Fr.b_ft, Fr.wipe_nil, Fr.wipe_one, Fr.back_nil, Fr.back_one, Fr.e_yes, ↓reduceIte, Nat.reduceSub, Nat.reduceAdd, Nat.reduceLeDiff, Nat.reduceLT, Nat.reduceEqDiff, Int.reduceLT, Int.reduceLE, Int.reduceEq, Int.reduceAdd, Int.reduceSub, Int.reduceNeg, reduceCtorEq, $xs,*] $[$l:location]?)
/-! ### places of columns -/
/-! ### values of terms -/
end Sh
namespace Sh
open PySem L2 Fr
local macro_rules
  | `(tactic| simp_arith only [$xs,*] $[$l:location]?) => `(tactic| simp -dsimp -implicitDefEqProofs only [Fr.bnd_ok, Fr.bnd_bad, Fr.bnd_ex, Fr.bnd_bnd, Fr.bnd_ite, Fr.e_fzO, Fr.e_fzv, Fr.e_fzo, Fr.e_fzr, Fr.e_fzs, Fr.e_var0, Fr.look_zero, Fr.look_succ, Fr.e_var, Fr.atV_val, Fr.atV_own, Fr.e_c, Fr.e_giv, Fr.e_rvv, Fr.e_rvo, Fr.own1_own, Fr.e_rd1v, Fr.e_rd1r, Fr.e_m2, Fr.e_m1, Fr.toB_bool, Fr.e_mB, Fr.e_and, Fr.e_or, Fr.e_not, Fr.e_andV, Fr.e_orV, Fr.e_notV, Fr.e_ite, Fr.chB_b, Fr.e_ch, Fr.e_anil, Fr.e_acons, Fr.rds_nil, Fr.rds_cons, Fr.e_mN, Fr.valsK_nil, Fr.valsK_cons, Fr.e_tup, Fr.e_lst, Fr.fin_val, Fr.fin_own, Fr.fin_ex, Fr.e_callF, Fr.nd_nil, Fr.nd_val, Fr.nd_ref, Fr.pos_nil, Fr.pos_val, Fr.pos_ref, Fr.arg_val, Fr.own2_own, Fr.arg_ref, Fr.wb_nil, Fr.wb_val, Fr.wb_ref, Fr.e_fn, Fr.rdR_val, Fr.e_meth, Fr.e_ownAt, Fr.tyK_list, Fr.tyK_str, Fr.e_mM, Fr.mutK_some, Fr.e_mut, Fr.e_sl, Fr.e_pno, Fr.toI_int, Fr.e_pI, Fr.itK_some, Fr.seqD_list, Fr.seqD_tuple, Fr.e_iQ, Fr.e_for, Fr.e_lc, Fr.e_gN, Fr.e_gT, Fr.e_gsNil, Fr.e_gsCons, Fr.freeB_none, Fr.freeB_val, Fr.freeB_own, Fr.e_okSet, Fr.e_next, Fr.e_brk, Fr.e_cont, Fr.seqK_next, Fr.seqK_ret, Fr.seqK_brk, Fr.seqK_cont, Fr.e_seq, Fr.e_if, Fr.retK_val, Fr.retK_own, Fr.retK_ref, Fr.e_ret, Fr.e_expr, Fr.e_setV, Fr.ownR_own, Fr.e_setO, Fr.outK_some, Fr.e_sTup, Fr.e_noX, Fr.e_prp, Fr.newO_ok, Fr.e_new, Fr.optK_some, Fr.optK_none, Fr.e_fldO, Fr.idxS_str, Fr.idxR_tup, Fr.idxR_list, Fr.e_idx, Fr.e_get2, Fr.toV_b, Fr.e_inO, Fr.e_frzE, Fr.e_sfrz, Fr.e_fzBt, Fr.e_fzBf, Fr.e_par2, Fr.e_outO, Fr.setR_val, Fr.setR_own, Fr.e_dnil, Fr.e_dcons, Fr.e_disp, Fr.e_isi, Fr.e_isi2, Fr.isiK_int, Fr.isiK_str, Fr.isiK_tup, Fr.isiK_lst, Fr.isiK_non, Fr.isiK2_tup, Fr.isiK2_lst, Fr.isiB_ii, Fr.isiB_bi, Fr.isiB_ti, Fr.isiB_si, Fr.isiB_tt, Fr.isiB_ts, Fr.isiB_ss, Fr.isiB_st, Fr.isiB_lt, Fr.isiB_ll, Fr.isiB_tl, Fr.isiB_tn, Fr.isiB_sn, Fr.one1_val, Fr.enK_list, Fr.enK_tup, Fr.e_iE, Fr.e_iR1, Fr.o_ltI, Fr.o_leI, Fr.o_gtI, Fr.o_geI, Fr.o_eqI, Fr.o_neI, Fr.o_eqS, Fr.o_neS, Fr.o_addI, Fr.o_subI, Fr.o_ixL, Fr.o_ixT, Fr.at0, Fr.at1, Fr.at2, Fr.at3, Fr.o_isNn, Fr.o_lenL, Fr.o_lenT, Fr.o_tupL, Fr.o_tupT, Fr.o_lstL, Fr.o_lstT, Fr.retO_ret, Fr.retO_next, Fr.retO_bad, Fr.retO_ite, Fr.e_run, Fr.outE_nil, Fr.outE_val, Fr.outE_own, Fr.l_map0, Fr.l_map, Fr.l_app0, Fr.l_app1, Fr.l_app, Fr.l_rep0, Fr.l_rep, Fr.l_set0, Fr.l_set, Fr.l_len0, Fr.l_len, Fr.l_tk0, Fr.l_tk, Fr.o_map, Fr.o_bind, Fr.b_and1, Fr.b_and0, Fr.b_or1, Fr.b_or0, Fr.b_andr, Fr.b_not1, Fr.b_not0, Fr.b_nef, Fr.b_net, Fr.o_none1, Fr.o_none2, Fr.size_0, Fr.d_true, Fr.d_false, Fr.b_tt, Fr.b_ft, Fr.wipe_nil, Fr.wipe_one, Fr.back_nil, Fr.back_one, Fr.e_yes, ↓reduceIte, Nat.reduceSub, Nat.reduceAdd, Nat.reduceLeDiff, Nat.reduceLT, Nat.reduceEqDiff, Int.reduceLT, Int.reduceLE, Int.reduceEq, Int.reduceAdd, Int.reduceSub, Int.reduceNeg, reduceCtorEq, $xs,*] $[$l:location]?)
section
variable {w : Wd} {r : Rl} {o n : Option (List Nat)}
theorem o_addT {xs ys : List D} (h : xs.length + ys.length ≤ 1000) (hs : stD (xs ++ ys) = false) : addD (.tuple xs) (.tuple ys) = some (.val (.tuple (xs ++ ys))) := by
  show Option.or none (Option.or none (Option.or none (addT _ _))) = _
  simp only [addT]
  rw [if_pos ⟨by rw [sizeLine_eq]; omega, .inr (.inr hs)⟩]; rfl
theorem st_no {l : List D} {x : D} (h : x ∈ l) (hx : isTx x = false) (hp : isPr x = false) : stD l = false := by
  unfold stD
  have e1 : l.all isTx = false := by
    rw [Bool.eq_false_iff]
    intro z
    have := List.all_eq_true.mp z x h
    rw [hx] at this; cases this
  have e2 : l.all isPr = false := by
    rw [Bool.eq_false_iff]
    intro z
    have := List.all_eq_true.mp z x h
    rw [hp] at this; cases this
  rw [e1, e2]; simp
theorem pr_no {l : List D} (h : ∀ d ∈ l, isTx d = false) : isPr (.tuple l) = false := by
  cases l with
  | nil => rfl
  | cons x l =>
    have := h x (.head _)
    cases x with
    | str z => cases this
    | _ => cases l with
      | nil => rfl
      | cons y l => cases l <;> rfl
theorem st_nat (v : List Nat) : stD (v.map fun v => PyData.int (v : Nat)) = false := by
  cases v with
  | nil => rfl
  | cons x v => exact st_no (x := .int (x : Nat)) (by simp) rfl rfl
end
/-! ### is_statement -/
theorem addL {xs ys : List D} (h : xs.length + ys.length ≤ 1000) : addD (.list xs) (.list ys) = some (.own (.list (xs ++ ys))) := addD_list _ _ (by rw [sizeLine_eq]; omega)
end Sh
namespace Sh
open PySem L2 Fr
local macro_rules
  | `(tactic| simp_arith only [$xs,*] $[$l:location]?) => `(tactic| simp -dsimp -implicitDefEqProofs only [Fr.bnd_ok, Fr.bnd_bad, Fr.bnd_ex, Fr.bnd_bnd, Fr.bnd_ite, Fr.e_fzO, Fr.e_fzv, Fr.e_fzo, Fr.e_fzr, Fr.e_fzs, Fr.e_var0, Fr.look_zero, Fr.look_succ, Fr.e_var, Fr.atV_val, Fr.atV_own, Fr.e_c, Fr.e_giv, Fr.e_rvv, Fr.e_rvo, Fr.own1_own, Fr.e_rd1v, Fr.e_rd1r, Fr.e_m2, Fr.e_m1, Fr.toB_bool, Fr.e_mB, Fr.e_and, Fr.e_or, Fr.e_not, Fr.e_andV, Fr.e_orV, Fr.e_notV, Fr.e_ite, Fr.chB_b, Fr.e_ch, Fr.e_anil, Fr.e_acons, Fr.rds_nil, Fr.rds_cons, Fr.e_mN, Fr.valsK_nil, Fr.valsK_cons, Fr.e_tup, Fr.e_lst, Fr.fin_val, Fr.fin_own, Fr.fin_ex, Fr.e_callF, Fr.nd_nil, Fr.nd_val, Fr.nd_ref, Fr.pos_nil, Fr.pos_val, Fr.pos_ref, Fr.arg_val, Fr.own2_own, Fr.arg_ref, Fr.wb_nil, Fr.wb_val, Fr.wb_ref, Fr.e_fn, Fr.rdR_val, Fr.e_meth, Fr.e_ownAt, Fr.tyK_list, Fr.tyK_str, Fr.e_mM, Fr.mutK_some, Fr.e_mut, Fr.e_sl, Fr.e_pno, Fr.toI_int, Fr.e_pI, Fr.itK_some, Fr.seqD_list, Fr.seqD_tuple, Fr.e_iQ, Fr.e_for, Fr.e_lc, Fr.e_gN, Fr.e_gT, Fr.e_gsNil, Fr.e_gsCons, Fr.freeB_none, Fr.freeB_val, Fr.freeB_own, Fr.e_okSet, Fr.e_next, Fr.e_brk, Fr.e_cont, Fr.seqK_next, Fr.seqK_ret, Fr.seqK_brk, Fr.seqK_cont, Fr.e_seq, Fr.e_if, Fr.retK_val, Fr.retK_own, Fr.retK_ref, Fr.e_ret, Fr.e_expr, Fr.e_setV, Fr.ownR_own, Fr.e_setO, Fr.outK_some, Fr.e_sTup, Fr.e_noX, Fr.e_prp, Fr.newO_ok, Fr.e_new, Fr.optK_some, Fr.optK_none, Fr.e_fldO, Fr.idxS_str, Fr.idxR_tup, Fr.idxR_list, Fr.e_idx, Fr.e_get2, Fr.toV_b, Fr.e_inO, Fr.e_frzE, Fr.e_sfrz, Fr.e_fzBt, Fr.e_fzBf, Fr.e_par2, Fr.e_outO, Fr.setR_val, Fr.setR_own, Fr.e_dnil, Fr.e_dcons, Fr.e_disp, Fr.e_isi, Fr.e_isi2, Fr.isiK_int, Fr.isiK_str, Fr.isiK_tup, Fr.isiK_lst, Fr.isiK_non, Fr.isiK2_tup, Fr.isiK2_lst, Fr.isiB_ii, Fr.isiB_bi, Fr.isiB_ti, Fr.isiB_si, Fr.isiB_tt, Fr.isiB_ts, Fr.isiB_ss, Fr.isiB_st, Fr.isiB_lt, Fr.isiB_ll, Fr.isiB_tl, Fr.isiB_tn, Fr.isiB_sn, Fr.one1_val, Fr.enK_list, Fr.enK_tup, Fr.e_iE, Fr.e_iR1, Fr.o_ltI, Fr.o_leI, Fr.o_gtI, Fr.o_geI, Fr.o_eqI, Fr.o_neI, Fr.o_eqS, Fr.o_neS, Fr.o_addI, Fr.o_subI, Fr.o_ixL, Fr.o_ixT, Fr.at0, Fr.at1, Fr.at2, Fr.at3, Fr.o_isNn, Fr.o_lenL, Fr.o_lenT, Fr.o_tupL, Fr.o_tupT, Fr.o_lstL, Fr.o_lstT, Fr.retO_ret, Fr.retO_next, Fr.retO_bad, Fr.retO_ite, Fr.e_run, Fr.outE_nil, Fr.outE_val, Fr.outE_own, Fr.l_map0, Fr.l_map, Fr.l_app0, Fr.l_app1, Fr.l_app, Fr.l_rep0, Fr.l_rep, Fr.l_set0, Fr.l_set, Fr.l_len0, Fr.l_len, Fr.l_tk0, Fr.l_tk, Fr.o_map, Fr.o_bind, Fr.b_and1, Fr.b_and0, Fr.b_or1, Fr.b_or0, Fr.b_andr, Fr.b_not1, Fr.b_not0, Fr.b_nef, Fr.b_net, Fr.o_none1, Fr.o_none2, Fr.size_0, Fr.d_true, Fr.d_false, Fr.b_tt, Fr.b_ft, Fr.wipe_nil, Fr.wipe_one, Fr.back_nil, Fr.back_one, Fr.e_yes, ↓reduceIte, Nat.reduceSub, Nat.reduceAdd, Nat.reduceLeDiff, Nat.reduceLT, Nat.reduceEqDiff, Int.reduceLT, Int.reduceLE, Int.reduceEq, Int.reduceAdd, Int.reduceSub, Int.reduceNeg, reduceCtorEq, $xs,*] $[$l:location]?)
def rwsD (vs : List Nat) : D := .tuple (vs.map fun v => .int (v : Nat))
def RowOk (w : Wd) (t : Tb) (vs : List Nat) : Prop := vs.length = t.cols.length ∧ ∀ v ∈ vs, v < w.size
theorem gd_row {w : Wd} (ok : w.Ok) {t : Tb} (tok : t.Ok) {vs : List Nat} (h : RowOk w t vs) : Gd 24 1 (rwsD vs) := by
  have s4 := ok.s4
  have l3 := tok.l3
  refine gd_tup ((GdA.upto (n := 3) (w := 7) (k := 0) (fun d hd => ?_) (by rw [List.length_map]; have := h.1; omega)).mono (by decide) (Nat.le_refl _))
  obtain ⟨v, hv, rfl⟩ := List.mem_map.mp hd
  exact gd_nat (by have := h.2 v hv; omega)
end Sh
namespace Sh
open PySem L2 Fr
local macro_rules
  | `(tactic| simp_arith only [$xs,*] $[$l:location]?) => `(tactic| simp -dsimp -implicitDefEqProofs only [Fr.bnd_ok, Fr.bnd_bad, Fr.bnd_ex, Fr.bnd_bnd, Fr.bnd_ite, Fr.e_fzO, Fr.e_fzv, Fr.e_fzo, Fr.e_fzr, Fr.e_fzs, Fr.e_var0, Fr.look_zero, Fr.look_succ, Fr.e_var, Fr.atV_val, Fr.atV_own, Fr.e_c, Fr.e_giv, Fr.e_rvv, Fr.e_rvo, Fr.own1_own, Fr.e_rd1v, Fr.e_rd1r, Fr.e_m2, Fr.e_m1, Fr.toB_bool, Fr.e_mB, Fr.e_and, Fr.e_or, Fr.e_not, Fr.e_andV, Fr.e_orV, Fr.e_notV, Fr.e_ite, Fr.chB_b, Fr.e_ch, Fr.e_anil, Fr.e_acons, Fr.rds_nil, Fr.rds_cons, Fr.e_mN, Fr.valsK_nil, Fr.valsK_cons, Fr.e_tup, Fr.e_lst, Fr.fin_val, Fr.fin_own, Fr.fin_ex, Fr.e_callF, Fr.nd_nil, Fr.nd_val, Fr.nd_ref, Fr.pos_nil, Fr.pos_val, Fr.pos_ref, Fr.arg_val, Fr.own2_own, Fr.arg_ref, Fr.wb_nil, Fr.wb_val, Fr.wb_ref, Fr.e_fn, Fr.rdR_val, Fr.e_meth, Fr.e_ownAt, Fr.tyK_list, Fr.tyK_str, Fr.e_mM, Fr.mutK_some, Fr.e_mut, Fr.e_sl, Fr.e_pno, Fr.toI_int, Fr.e_pI, Fr.itK_some, Fr.seqD_list, Fr.seqD_tuple, Fr.e_iQ, Fr.e_for, Fr.e_lc, Fr.e_gN, Fr.e_gT, Fr.e_gsNil, Fr.e_gsCons, Fr.freeB_none, Fr.freeB_val, Fr.freeB_own, Fr.e_okSet, Fr.e_next, Fr.e_brk, Fr.e_cont, Fr.seqK_next, Fr.seqK_ret, Fr.seqK_brk, Fr.seqK_cont, Fr.e_seq, Fr.e_if, Fr.retK_val, Fr.retK_own, Fr.retK_ref, Fr.e_ret, Fr.e_expr, Fr.e_setV, Fr.ownR_own, Fr.e_setO, Fr.outK_some, Fr.e_sTup, Fr.e_noX, Fr.e_prp, Fr.newO_ok, Fr.e_new, Fr.optK_some, Fr.optK_none, Fr.e_fldO, Fr.idxS_str, Fr.idxR_tup, Fr.idxR_list, Fr.e_idx, Fr.e_get2, Fr.toV_b, Fr.e_inO, Fr.e_frzE, Fr.e_sfrz, Fr.e_fzBt, Fr.e_fzBf, Fr.e_par2, Fr.e_outO, Fr.setR_val, Fr.setR_own, Fr.e_dnil, Fr.e_dcons, Fr.e_disp, Fr.e_isi, Fr.e_isi2, Fr.isiK_int, Fr.isiK_str, Fr.isiK_tup, Fr.isiK_lst, Fr.isiK_non, Fr.isiK2_tup, Fr.isiK2_lst, Fr.isiB_ii, Fr.isiB_bi, Fr.isiB_ti, Fr.isiB_si, Fr.isiB_tt, Fr.isiB_ts, Fr.isiB_ss, Fr.isiB_st, Fr.isiB_lt, Fr.isiB_ll, Fr.isiB_tl, Fr.isiB_tn, Fr.isiB_sn, Fr.one1_val, Fr.enK_list, Fr.enK_tup, Fr.e_iE, Fr.e_iR1, Fr.o_ltI, Fr.o_leI, Fr.o_gtI, Fr.o_geI, Fr.o_eqI, Fr.o_neI, Fr.o_eqS, Fr.o_neS, Fr.o_addI, Fr.o_subI, Fr.o_ixL, Fr.o_ixT, Fr.at0, Fr.at1, Fr.at2, Fr.at3, Fr.o_isNn, Fr.o_lenL, Fr.o_lenT, Fr.o_tupL, Fr.o_tupT, Fr.o_lstL, Fr.o_lstT, Fr.retO_ret, Fr.retO_next, Fr.retO_bad, Fr.retO_ite, Fr.e_run, Fr.outE_nil, Fr.outE_val, Fr.outE_own, Fr.l_map0, Fr.l_map, Fr.l_app0, Fr.l_app1, Fr.l_app, Fr.l_rep0, Fr.l_rep, Fr.l_set0, Fr.l_set, Fr.l_len0, Fr.l_len, Fr.l_tk0, Fr.l_tk, Fr.o_map, Fr.o_bind, Fr.b_and1, Fr.b_and0, Fr.b_or1, Fr.b_or0, Fr.b_andr, Fr.b_not1, Fr.b_not0, Fr.b_nef, Fr.b_net, Fr.o_none1, Fr.o_none2, Fr.size_0, Fr.d_true, Fr.d_false, Fr.b_tt, Fr.b_ft, Fr.wipe_nil, Fr.wipe_one, Fr.back_nil, Fr.back_one, Fr.e_yes, ↓reduceIte, Nat.reduceSub, Nat.reduceAdd, Nat.reduceLeDiff, Nat.reduceLT, Nat.reduceEqDiff, Int.reduceLT, Int.reduceLE, Int.reduceEq, Int.reduceAdd, Int.reduceSub, Int.reduceNeg, reduceCtorEq, $xs,*] $[$l:location]?)
/-! ### rows in order -/
def inD (vs : List Nat) : List D := vs.map fun v => .int (v : Nat)
theorem take_lt : ∀ (k : Nat) {a b : List Nat}, a.take k < b.take k → a < b
  | 0, _, _, h => by simp at h
  | k + 1, [], [], h => by simp at h
  | k + 1, [], y :: b, h => by simp
  | k + 1, x :: a, [], h => by simp at h
  | k + 1, x :: a, y :: b, h => by
    rw [List.take_succ_cons, List.take_succ_cons, List.cons_lt_cons_iff] at h
    rw [List.cons_lt_cons_iff]
    exact h.imp id fun q => ⟨q.1, take_lt k q.2⟩
theorem lt_le {a b : List Nat} (h : a < b) : a ≤ b := List.le_of_lt h
/-! ### contents -/
structure Ct (w : Wd) (t : Tb) (rs : List (List Nat)) : Prop where
  rows : ∀ r ∈ rs, RowOk w t r
  keys : rs.Pairwise fun a b => a.take t.keys < b.take t.keys
theorem Ct.le {w : Wd} {t : Tb} {rs : List (List Nat)} (h : Ct w t rs) : rs.Pairwise (· ≤ ·) := h.keys.imp fun q => lt_le (take_lt _ q)
theorem Ct.sub {w : Wd} {t : Tb} {rs ss : List (List Nat)} (h : Ct w t rs) (s : ss.Sublist rs) : Ct w t ss := ⟨fun r hr => h.rows r (s.subset hr), h.keys.sublist s⟩
theorem Ct.nil (w : Wd) (t : Tb) : Ct w t [] := ⟨(fun _ h => (List.not_mem_nil h).elim), List.Pairwise.nil⟩
end Sh
namespace Sh
open PySem L2 Fr
local macro_rules
  | `(tactic| simp_arith only [$xs,*] $[$l:location]?) => `(tactic| simp -dsimp -implicitDefEqProofs only [Fr.bnd_ok, Fr.bnd_bad, Fr.bnd_ex, Fr.bnd_bnd, Fr.bnd_ite, Fr.e_fzO, Fr.e_fzv, Fr.e_fzo, Fr.e_fzr, Fr.e_fzs, Fr.e_var0, Fr.look_zero, Fr.look_succ, Fr.e_var, Fr.atV_val, Fr.atV_own, Fr.e_c, Fr.e_giv, Fr.e_rvv, Fr.e_rvo, Fr.own1_own, Fr.e_rd1v, Fr.e_rd1r, Fr.e_m2, Fr.e_m1, Fr.toB_bool, Fr.e_mB, Fr.e_and, Fr.e_or, Fr.e_not, Fr.e_andV, Fr.e_orV, Fr.e_notV, Fr.e_ite, Fr.chB_b, Fr.e_ch, Fr.e_anil, Fr.e_acons, Fr.rds_nil, Fr.rds_cons, Fr.e_mN, Fr.valsK_nil, Fr.valsK_cons, Fr.e_tup, Fr.e_lst, Fr.fin_val, Fr.fin_own, Fr.fin_ex, Fr.e_callF, Fr.nd_nil, Fr.nd_val, Fr.nd_ref, Fr.pos_nil, Fr.pos_val, Fr.pos_ref, Fr.arg_val, Fr.own2_own, Fr.arg_ref, Fr.wb_nil, Fr.wb_val, Fr.wb_ref, Fr.e_fn, Fr.rdR_val, Fr.e_meth, Fr.e_ownAt, Fr.tyK_list, Fr.tyK_str, Fr.e_mM, Fr.mutK_some, Fr.e_mut, Fr.e_sl, Fr.e_pno, Fr.toI_int, Fr.e_pI, Fr.itK_some, Fr.seqD_list, Fr.seqD_tuple, Fr.e_iQ, Fr.e_for, Fr.e_lc, Fr.e_gN, Fr.e_gT, Fr.e_gsNil, Fr.e_gsCons, Fr.freeB_none, Fr.freeB_val, Fr.freeB_own, Fr.e_okSet, Fr.e_next, Fr.e_brk, Fr.e_cont, Fr.seqK_next, Fr.seqK_ret, Fr.seqK_brk, Fr.seqK_cont, Fr.e_seq, Fr.e_if, Fr.retK_val, Fr.retK_own, Fr.retK_ref, Fr.e_ret, Fr.e_expr, Fr.e_setV, Fr.ownR_own, Fr.e_setO, Fr.outK_some, Fr.e_sTup, Fr.e_noX, Fr.e_prp, Fr.newO_ok, Fr.e_new, Fr.optK_some, Fr.optK_none, Fr.e_fldO, Fr.idxS_str, Fr.idxR_tup, Fr.idxR_list, Fr.e_idx, Fr.e_get2, Fr.toV_b, Fr.e_inO, Fr.e_frzE, Fr.e_sfrz, Fr.e_fzBt, Fr.e_fzBf, Fr.e_par2, Fr.e_outO, Fr.setR_val, Fr.setR_own, Fr.e_dnil, Fr.e_dcons, Fr.e_disp, Fr.e_isi, Fr.e_isi2, Fr.isiK_int, Fr.isiK_str, Fr.isiK_tup, Fr.isiK_lst, Fr.isiK_non, Fr.isiK2_tup, Fr.isiK2_lst, Fr.isiB_ii, Fr.isiB_bi, Fr.isiB_ti, Fr.isiB_si, Fr.isiB_tt, Fr.isiB_ts, Fr.isiB_ss, Fr.isiB_st, Fr.isiB_lt, Fr.isiB_ll, Fr.isiB_tl, Fr.isiB_tn, Fr.isiB_sn, Fr.one1_val, Fr.enK_list, Fr.enK_tup, Fr.e_iE, Fr.e_iR1, Fr.o_ltI, Fr.o_leI, Fr.o_gtI, Fr.o_geI, Fr.o_eqI, Fr.o_neI, Fr.o_eqS, Fr.o_neS, Fr.o_addI, Fr.o_subI, Fr.o_ixL, Fr.o_ixT, Fr.at0, Fr.at1, Fr.at2, Fr.at3, Fr.o_isNn, Fr.o_lenL, Fr.o_lenT, Fr.o_tupL, Fr.o_tupT, Fr.o_lstL, Fr.o_lstT, Fr.retO_ret, Fr.retO_next, Fr.retO_bad, Fr.retO_ite, Fr.e_run, Fr.outE_nil, Fr.outE_val, Fr.outE_own, Fr.l_map0, Fr.l_map, Fr.l_app0, Fr.l_app1, Fr.l_app, Fr.l_rep0, Fr.l_rep, Fr.l_set0, Fr.l_set, Fr.l_len0, Fr.l_len, Fr.l_tk0, Fr.l_tk, Fr.o_map, Fr.o_bind, Fr.b_and1, Fr.b_and0, Fr.b_or1, Fr.b_or0, Fr.b_andr, Fr.b_not1, Fr.b_not0, Fr.b_nef, Fr.b_net, Fr.o_none1, Fr.o_none2, Fr.size_0, Fr.d_true, Fr.d_false, Fr.b_tt, Fr.b_ft, Fr.wipe_nil, Fr.wipe_one, Fr.back_nil, Fr.back_one, Fr.e_yes, ↓reduceIte, Nat.reduceSub, Nat.reduceAdd, Nat.reduceLeDiff, Nat.reduceLT, Nat.reduceEqDiff, Int.reduceLT, Int.reduceLE, Int.reduceEq, Int.reduceAdd, Int.reduceSub, Int.reduceNeg, reduceCtorEq, $xs,*] $[$l:location]?)
/-! ### worlds of told shapes -/
structure ShIs (s : Str) (m : Nat) (nks : List (Nat × Nat)) : Prop where
  ex : ∃ (z : Str) (ps : List Str), splitD (.str s) [.str " "] = some (.own (.list (.str z :: ps.map .str))) ∧ intD [.str z] = some (.val (.int m)) ∧ ps.length = nks.length ∧ ∀ (i : Nat) (p : Str) (nk : Nat × Nat), ps[i]? = some p → nks[i]? = some nk → PtOk p nk.1 nk.2
  m2 : 2 ≤ m
  m4 : m ≤ 4
  l1 : 1 ≤ nks.length
  l3 : nks.length ≤ 3
def shT (t : Tb) : Nat × Nat := (t.cols.length, t.keys)
def ptS : Nat × Nat → Str
  | (1, 1) => "11"
  | (2, 1) => "21"
  | (2, 2) => "22"
  | (3, 1) => "31"
  | (3, 2) => "32"
  | _ => "33"
def ptsN : List (Nat × Nat) := [(1, 1), (2, 1), (2, 2), (3, 1), (3, 2), (3, 3)]
theorem ptS_ok {nk : Nat × Nat} (h : nk ∈ ptsN) : PtOk (ptS nk) nk.1 nk.2 := by
  simp only [ptsN, List.mem_cons, List.not_mem_nil, or_false] at h
  rcases h with rfl | rfl | rfl | rfl | rfl | rfl
  · exact pt11
  · exact pt21
  · exact pt22
  · exact pt31
  · exact pt32
  · exact pt33
theorem dig_ok {m : Nat} {z : Str} (h : (m, z) ∈ [((2 : Nat), ("2" : Str)), (3, "3"), (4, "4")]) : intD [.str z] = some (.val (.int m)) := by
  simp only [List.mem_cons, List.not_mem_nil, or_false, Prod.mk.injEq] at h
  rcases h with ⟨rfl, rfl⟩ | ⟨rfl, rfl⟩ | ⟨rfl, rfl⟩
  · exact dig2
  · exact dig3
  · exact dig4
theorem shis_mk {s z : Str} (m : Nat) (nks : List (Nat × Nat)) (h : Txt.split s " " = z :: nks.map ptS) (hl : s.length ≤ 50) (hz : (m, z) ∈ [((2 : Nat), ("2" : Str)), (3, "3"), (4, "4")]) (h1 : 1 ≤ nks.length) (h3 : nks.length ≤ 3) (hp : ∀ nk ∈ nks, nk ∈ ptsN) : ShIs s m nks := by
  have hm : 2 ≤ m ∧ m ≤ 4 := by
    simp only [List.mem_cons, List.not_mem_nil, or_false, Prod.mk.injEq] at hz
    omega
  refine ⟨⟨z, nks.map ptS, ?_, dig_ok hz, by simp, fun i p nk hi hj => ?_⟩, hm.1, hm.2, h1, h3⟩
  · simp only [splitD]
    rw [if_pos ⟨by decide, small_line (by omega)⟩, h]; rfl
  · rw [List.getElem?_map, hj] at hi
    cases hi
    exact ptS_ok (hp nk (List.mem_of_getElem? hj))
theorem world_sh {n : Nat} {d : D} (shs : List Str) (sh : Str → Nat × List (Nat × Nat)) (hs : ∀ s ∈ shs, ShIs s (sh s).1 (sh s).2) (h0 : 0 < shs.length) (h1 : shs.length ≤ 100) (h : Bg n d) (hn : n ≤ 900000) :
    ∃ w d', m__law_world [some (.own d), some (.val (.list (shs.map .str)))] = .ok (.own (wdD w), [some (.own d'), some (.val (.list (shs.map .str)))]) ∧ (w.Ok ∧ ∃ s ∈ shs, w.size = (sh s).1 ∧ w.tabs.map shT = (sh s).2) ∧ Bg (n + 20) d' := by
  have hw : W (m__law_world [some (.own d), some (.val (.list (shs.map .str)))]) fun x => ∃ w d', x = (.own (wdD w), [some (.own d'), some (.val (.list (shs.map .str)))]) ∧ (w.Ok ∧ ∃ s ∈ shs, w.size = (sh s).1 ∧ w.tabs.map shT = (sh s).2) ∧ Bg (n + 20) d' := by
    obtain ⟨s, d1, hsm, e1, b1⟩ := one_ex shs PyData.str h (by omega) h0 (by omega)
    obtain ⟨⟨z, ps, es, ez, hpl, hp⟩, m2, m4, p1, p3⟩ := hs s hsm
    generalize hm : (sh s).1 = m at ez m2 m4
    generalize hnks : (sh s).2 = nks at hpl hp p1 p3
    have esl : slD (.list (.str z :: ps.map .str)) (some 1) none = some (.own (.list (ps.map .str))) := by
      show some (Sl.own (.list (cutD _ _ _))) = _
      rw [cut1]
    simp_arith only [m__law_world, b__law_world, e1, es, sz6, esl]
    refine w_retb (w_forJ (fun j ρ => ∃ (d : D) (nms : List Str) (tabs : List Tb) (s5 s6 s7 : Option Sl), ρ = [some (.own d), some (.val (.list (shs.map .str))), some (.val (.list (.str z :: ps.map .str))), some (.own (.list (nms.map .str))), some (.own (.list (tabs.map tbD))), s5, s6, s7, none] ∧
        Bg (n + 1 + 5 * j) d ∧ nms.length = 6 - j ∧ nms.Nodup ∧ (∀ x ∈ nms, x ∈ tbNames) ∧ tabs.length = j ∧ (∀ t ∈ tabs, t.Ok) ∧ (tabs.map (·.name)).Nodup ∧ (∀ x ∈ nms, x ∉ tabs.map (·.name)) ∧ tabs.map shT = nks.take j) ?_ (fun j q ρ1 Q1 hd hi hN _ => ?_) (fun ρ1 hi => ?_))
    · exact ⟨d1, tbNames, [], none, none, none, rfl, b1.mono (by omega), rfl, tb_nd, (fun _ x => x), rfl, (fun _ x => by cases x), List.Pairwise.nil, (fun _ _ => by simp), rfl⟩
    · obtain ⟨d, nms, tabs, s5, s6, s7, rfl, b, hl, hnd, hsub, htl, htok, htn, hdis, hsp⟩ := hi
      rw [List.getElem?_map] at hd
      obtain ⟨p, hp1, rfl⟩ := Option.map_eq_some_iff.mp hd
      have hj : j < ps.length := (List.getElem?_eq_some_iff.mp hp1).1
      have hj2 : j < nks.length := by omega
      obtain ⟨nc, nk, hnk⟩ : ∃ nc nk, nks[j]? = some (nc, nk) := ⟨(nks[j]'hj2).1, (nks[j]'hj2).2, List.getElem?_eq_getElem hj2⟩
      obtain ⟨⟨x0, x1, q1, q2, q3, q4⟩, c1, c3, k1, k2⟩ := hp j p (nc, nk) hp1 hnk
      dsimp only at q2 q4 c1 c3 k1 k2
      have hr : nc ≤ 1000000 := by omega
      simp_arith only [sz6, q1, q2, rgK_small hr]
      refine w_bnd (w_lcJ (fun i acc ρ => ∃ (d : D) (cols got : List Str), ρ = [some (.own d), some (.val (.list (shs.map .str))), some (.val (.list (.str z :: ps.map .str))), some (.own (.list (nms.map .str))), some (.own (.list (tabs.map tbD))), some (.val (.str p)), some (.own (.list (cols.map .str))), s7, none] ∧
          acc = got.map .str ∧ Bg (n + 1 + 5 * j + i) d ∧ cols.length = 6 - i ∧ cols.Nodup ∧ (∀ x ∈ cols, x ∈ coNames) ∧ got.length = i ∧ got.Nodup ∧ (∀ x ∈ got, x ∈ coNames) ∧ ∀ x ∈ cols, x ∉ got) ?_ (by rw [rng_len]; omega) (fun i q acc ρ1 Q2 hq hi hO => ?_) (fun acc ρ1 hi => ?_))
      · exact ⟨d, coNames, [], rfl, rfl, b, rfl, co_nd, (fun _ x => x), rfl, List.Pairwise.nil, (fun _ x => by cases x), (fun _ _ => by simp)⟩
      · obtain ⟨d, cols, got, rfl, rfl, b, hcl, hcn, hcs, hgl, hgn, hgs, hdi⟩ := hi
        obtain ⟨hi2, rfl⟩ := rng_get hq
        have hi3 : i < 3 := by omega
        obtain ⟨v, d2, et, v0, v1, b2⟩ := take_ex (many := (cols.length : Nat)) b (by omega) (by omega) (by omega)
        obtain ⟨k, y, hk, ep⟩ := pop_ex v0 v1 (by omega)
        simp_arith only [lcStep, List.length_map, et, ep]
        have hkl := (List.getElem?_eq_some_iff.mp hk).1
        have hym := List.mem_of_getElem? hk
        refine .ok (hO _ _ ⟨d2, cols.eraseIdx k, got ++ [y], rfl, by simp, b2, ?_, hcn.eraseIdx k, (fun x hx => hcs x (List.mem_of_mem_eraseIdx hx)), by simp [hgl], ?_, ?_, ?_⟩)
        · rw [List.length_eraseIdx_of_lt hkl]; omega
        · rw [List.nodup_append]
          exact ⟨hgn, by simp, fun a ha b hb => by
            simp at hb; subst hb
            exact fun e => hdi a (e ▸ hym) ha⟩
        · intro x hx
          rcases List.mem_append.mp hx with hx | hx
          · exact hgs x hx
          · simp at hx; subst hx; exact hcs _ hym
        · intro x hx hx2
          have hx1 := List.mem_of_mem_eraseIdx hx
          rcases List.mem_append.mp hx2 with hx2 | hx2
          · exact hdi x hx1 hx2
          · simp at hx2; subst hx2
            obtain ⟨k', hk', hne, hke⟩ := List.mem_eraseIdx_iff_getElem.mp hx
            have h2 := (List.getElem?_eq_some_iff.mp hk).2
            exact hne ((List.getElem_inj (h₀ := hk') (h₁ := hkl) hcn).mp (hke.trans h2.symm))
      · obtain ⟨d, cols, got, rfl, rfl, b, hcl, hcn, hcs, hgl, hgn, hgs, hdi⟩ := hi
        rw [rng_len] at hgl b
        obtain ⟨v, d2, et, v0, v1, b2⟩ := take_ex (many := (nms.length : Nat)) b (by omega) (by omega) (by omega)
        obtain ⟨k, y, hk, ep⟩ := pop_ex v0 v1 (by omega)
        have hkl := (List.getElem?_eq_some_iff.mp hk).1
        have hym := List.mem_of_getElem? hk
        have ea : uAppend (.list (tabs.map tbD)) [.tuple [.str y, .tuple (got.map .str), .int nk]] = some (.list ((tabs ++ [(⟨y, got, nk⟩ : Tb)]).map tbD), .none) := by
          rw [app_ok (by rw [List.length_map]; omega), List.map_append]; rfl
        simp_arith only [List.length_map, et, ep, sz3, q3, q4, ea]
        refine .ok (hN _ ⟨d2, nms.eraseIdx k, tabs ++ [(⟨y, got, nk⟩ : Tb)], _, _, _, rfl, b2.mono (by omega), ?_, hnd.eraseIdx k, (fun x hx => hsub x (List.mem_of_mem_eraseIdx hx)), by simp [htl], ?_, ?_, ?_, ?_⟩)
        · rw [List.length_eraseIdx_of_lt hkl]; omega
        · intro t ht
          rcases List.mem_append.mp ht with ht | ht
          · exact htok t ht
          · simp at ht; subst ht
            exact ⟨hsub y hym, hgs, hgn, by dsimp only; omega, by dsimp only; omega, k1, by dsimp only; omega⟩
        · rw [List.map_append, List.nodup_append]
          exact ⟨htn, by simp, fun a ha b hb => by
            simp at hb; subst hb
            exact fun e => hdis a (e ▸ hym) ha⟩
        · intro x hx hx2
          have hx1 := List.mem_of_mem_eraseIdx hx
          rw [List.map_append] at hx2
          rcases List.mem_append.mp hx2 with hx2 | hx2
          · exact hdis x hx1 hx2
          · simp at hx2; subst hx2
            obtain ⟨k', hk', hne, hke⟩ := List.mem_eraseIdx_iff_getElem.mp hx
            have h2 := (List.getElem?_eq_some_iff.mp hk).2
            exact hne ((List.getElem_inj (h₀ := hk') (h₁ := hkl) hnd).mp (hke.trans h2.symm))
        · rw [List.map_append, hsp, List.take_add_one, hnk]
          show _ ++ [((List.length got : Nat), nk)] = _
          rw [hgl]; rfl
    · obtain ⟨d, nms, tabs, s5, s6, s7, rfl, b, hl, hnd, hsub, htl, htok, htn, hdis, hsp⟩ := hi
      rw [List.length_map] at htl b hsp
      have e4 : (4 ≤ 15) = True := eq_true (by decide)
      have e0 : (0 ≤ sizeLine) = True := eq_true (Nat.zero_le _)
      simp_arith only [ez, disp4, e4, merge4]
      rw [List.take_of_length_le (by omega)] at hsp
      exact .ok ⟨⟨m, tabs⟩, d, rfl, ⟨⟨m2, m4, by dsimp only; omega, by dsimp only; omega, htok, htn⟩, s, hsm, hm.symm, hsp.trans hnks.symm⟩, b.mono (by omega)⟩
  obtain ⟨x, e, w, d', rfl, h2, h3⟩ := hw.ex
  exact ⟨w, d', e, h2, h3⟩
end Sh
namespace Sh
open PySem L2 Fr
local macro_rules
  | `(tactic| simp_arith only [$xs,*] $[$l:location]?) => `(tactic| simp -dsimp -implicitDefEqProofs only [Fr.bnd_ok, Fr.bnd_bad, Fr.bnd_ex, Fr.bnd_bnd, Fr.bnd_ite, Fr.e_fzO, Fr.e_fzv, Fr.e_fzo, Fr.e_fzr, Fr.e_fzs, Fr.e_var0, Fr.look_zero, Fr.look_succ, Fr.e_var, Fr.atV_val, Fr.atV_own, Fr.e_c, Fr.e_giv, Fr.e_rvv, Fr.e_rvo, Fr.own1_own, Fr.e_rd1v, Fr.e_rd1r, Fr.e_m2, Fr.e_m1, Fr.toB_bool, Fr.e_mB, Fr.e_and, Fr.e_or, Fr.e_not, Fr.e_andV, Fr.e_orV, Fr.e_notV, Fr.e_ite, Fr.chB_b, Fr.e_ch, Fr.e_anil, Fr.e_acons, Fr.rds_nil, Fr.rds_cons, Fr.e_mN, Fr.valsK_nil, Fr.valsK_cons, Fr.e_tup, Fr.e_lst, Fr.fin_val, Fr.fin_own, Fr.fin_ex, Fr.e_callF, Fr.nd_nil, Fr.nd_val, Fr.nd_ref, Fr.pos_nil, Fr.pos_val, Fr.pos_ref, Fr.arg_val, Fr.own2_own, Fr.arg_ref, Fr.wb_nil, Fr.wb_val, Fr.wb_ref, Fr.e_fn, Fr.rdR_val, Fr.e_meth, Fr.e_ownAt, Fr.tyK_list, Fr.tyK_str, Fr.e_mM, Fr.mutK_some, Fr.e_mut, Fr.e_sl, Fr.e_pno, Fr.toI_int, Fr.e_pI, Fr.itK_some, Fr.seqD_list, Fr.seqD_tuple, Fr.e_iQ, Fr.e_for, Fr.e_lc, Fr.e_gN, Fr.e_gT, Fr.e_gsNil, Fr.e_gsCons, Fr.freeB_none, Fr.freeB_val, Fr.freeB_own, Fr.e_okSet, Fr.e_next, Fr.e_brk, Fr.e_cont, Fr.seqK_next, Fr.seqK_ret, Fr.seqK_brk, Fr.seqK_cont, Fr.e_seq, Fr.e_if, Fr.retK_val, Fr.retK_own, Fr.retK_ref, Fr.e_ret, Fr.e_expr, Fr.e_setV, Fr.ownR_own, Fr.e_setO, Fr.outK_some, Fr.e_sTup, Fr.e_noX, Fr.e_prp, Fr.newO_ok, Fr.e_new, Fr.optK_some, Fr.optK_none, Fr.e_fldO, Fr.idxS_str, Fr.idxR_tup, Fr.idxR_list, Fr.e_idx, Fr.e_get2, Fr.toV_b, Fr.e_inO, Fr.e_frzE, Fr.e_sfrz, Fr.e_fzBt, Fr.e_fzBf, Fr.e_par2, Fr.e_outO, Fr.setR_val, Fr.setR_own, Fr.e_dnil, Fr.e_dcons, Fr.e_disp, Fr.e_isi, Fr.e_isi2, Fr.isiK_int, Fr.isiK_str, Fr.isiK_tup, Fr.isiK_lst, Fr.isiK_non, Fr.isiK2_tup, Fr.isiK2_lst, Fr.isiB_ii, Fr.isiB_bi, Fr.isiB_ti, Fr.isiB_si, Fr.isiB_tt, Fr.isiB_ts, Fr.isiB_ss, Fr.isiB_st, Fr.isiB_lt, Fr.isiB_ll, Fr.isiB_tl, Fr.isiB_tn, Fr.isiB_sn, Fr.one1_val, Fr.enK_list, Fr.enK_tup, Fr.e_iE, Fr.e_iR1, Fr.o_ltI, Fr.o_leI, Fr.o_gtI, Fr.o_geI, Fr.o_eqI, Fr.o_neI, Fr.o_eqS, Fr.o_neS, Fr.o_addI, Fr.o_subI, Fr.o_ixL, Fr.o_ixT, Fr.at0, Fr.at1, Fr.at2, Fr.at3, Fr.o_isNn, Fr.o_lenL, Fr.o_lenT, Fr.o_tupL, Fr.o_tupT, Fr.o_lstL, Fr.o_lstT, Fr.retO_ret, Fr.retO_next, Fr.retO_bad, Fr.retO_ite, Fr.e_run, Fr.outE_nil, Fr.outE_val, Fr.outE_own, Fr.l_map0, Fr.l_map, Fr.l_app0, Fr.l_app1, Fr.l_app, Fr.l_rep0, Fr.l_rep, Fr.l_set0, Fr.l_set, Fr.l_len0, Fr.l_len, Fr.l_tk0, Fr.l_tk, Fr.o_map, Fr.o_bind, Fr.b_and1, Fr.b_and0, Fr.b_or1, Fr.b_or0, Fr.b_andr, Fr.b_not1, Fr.b_not0, Fr.b_nef, Fr.b_net, Fr.o_none1, Fr.o_none2, Fr.size_0, Fr.d_true, Fr.d_false, Fr.b_tt, Fr.b_ft, Fr.wipe_nil, Fr.wipe_one, Fr.back_nil, Fr.back_one, Fr.e_yes, ↓reduceIte, Nat.reduceSub, Nat.reduceAdd, Nat.reduceLeDiff, Nat.reduceLT, Nat.reduceEqDiff, Int.reduceLT, Int.reduceLE, Int.reduceEq, Int.reduceAdd, Int.reduceSub, Int.reduceNeg, reduceCtorEq, $xs,*] $[$l:location]?)
end Sh
namespace Sh
open PySem L2 Fr
local macro_rules
  | `(tactic| simp_arith only [$xs,*] $[$l:location]?) => `(tactic| simp -dsimp -implicitDefEqProofs only [Fr.bnd_ok, Fr.bnd_bad, Fr.bnd_ex, Fr.bnd_bnd, Fr.bnd_ite, Fr.e_fzO, Fr.e_fzv, Fr.e_fzo, Fr.e_fzr, Fr.e_fzs, Fr.e_var0, Fr.look_zero, Fr.look_succ, Fr.e_var, Fr.atV_val, Fr.atV_own, Fr.e_c, Fr.e_giv, Fr.e_rvv, Fr.e_rvo, Fr.own1_own, Fr.e_rd1v, Fr.e_rd1r, Fr.e_m2, Fr.e_m1, Fr.toB_bool, Fr.e_mB, Fr.e_and, Fr.e_or, Fr.e_not, Fr.e_andV, Fr.e_orV, Fr.e_notV, Fr.e_ite, Fr.chB_b, Fr.e_ch, Fr.e_anil, Fr.e_acons, Fr.rds_nil, Fr.rds_cons, Fr.e_mN, Fr.valsK_nil, Fr.valsK_cons, Fr.e_tup, Fr.e_lst, Fr.fin_val, Fr.fin_own, Fr.fin_ex, Fr.e_callF, Fr.nd_nil, Fr.nd_val, Fr.nd_ref, Fr.pos_nil, Fr.pos_val, Fr.pos_ref, Fr.arg_val, Fr.own2_own, Fr.arg_ref, Fr.wb_nil, Fr.wb_val, Fr.wb_ref, Fr.e_fn, Fr.rdR_val, Fr.e_meth, Fr.e_ownAt, Fr.tyK_list, Fr.tyK_str, Fr.e_mM, Fr.mutK_some, Fr.e_mut, Fr.e_sl, Fr.e_pno, Fr.toI_int, Fr.e_pI, Fr.itK_some, Fr.seqD_list, Fr.seqD_tuple, Fr.e_iQ, Fr.e_for, Fr.e_lc, Fr.e_gN, Fr.e_gT, Fr.e_gsNil, Fr.e_gsCons, Fr.freeB_none, Fr.freeB_val, Fr.freeB_own, Fr.e_okSet, Fr.e_next, Fr.e_brk, Fr.e_cont, Fr.seqK_next, Fr.seqK_ret, Fr.seqK_brk, Fr.seqK_cont, Fr.e_seq, Fr.e_if, Fr.retK_val, Fr.retK_own, Fr.retK_ref, Fr.e_ret, Fr.e_expr, Fr.e_setV, Fr.ownR_own, Fr.e_setO, Fr.outK_some, Fr.e_sTup, Fr.e_noX, Fr.e_prp, Fr.newO_ok, Fr.e_new, Fr.optK_some, Fr.optK_none, Fr.e_fldO, Fr.idxS_str, Fr.idxR_tup, Fr.idxR_list, Fr.e_idx, Fr.e_get2, Fr.toV_b, Fr.e_inO, Fr.e_frzE, Fr.e_sfrz, Fr.e_fzBt, Fr.e_fzBf, Fr.e_par2, Fr.e_outO, Fr.setR_val, Fr.setR_own, Fr.e_dnil, Fr.e_dcons, Fr.e_disp, Fr.e_isi, Fr.e_isi2, Fr.isiK_int, Fr.isiK_str, Fr.isiK_tup, Fr.isiK_lst, Fr.isiK_non, Fr.isiK2_tup, Fr.isiK2_lst, Fr.isiB_ii, Fr.isiB_bi, Fr.isiB_ti, Fr.isiB_si, Fr.isiB_tt, Fr.isiB_ts, Fr.isiB_ss, Fr.isiB_st, Fr.isiB_lt, Fr.isiB_ll, Fr.isiB_tl, Fr.isiB_tn, Fr.isiB_sn, Fr.one1_val, Fr.enK_list, Fr.enK_tup, Fr.e_iE, Fr.e_iR1, Fr.o_ltI, Fr.o_leI, Fr.o_gtI, Fr.o_geI, Fr.o_eqI, Fr.o_neI, Fr.o_eqS, Fr.o_neS, Fr.o_addI, Fr.o_subI, Fr.o_ixL, Fr.o_ixT, Fr.at0, Fr.at1, Fr.at2, Fr.at3, Fr.o_isNn, Fr.o_lenL, Fr.o_lenT, Fr.o_tupL, Fr.o_tupT, Fr.o_lstL, Fr.o_lstT, Fr.retO_ret, Fr.retO_next, Fr.retO_bad, Fr.retO_ite, Fr.e_run, Fr.outE_nil, Fr.outE_val, Fr.outE_own, Fr.l_map0, Fr.l_map, Fr.l_app0, Fr.l_app1, Fr.l_app, Fr.l_rep0, Fr.l_rep, Fr.l_set0, Fr.l_set, Fr.l_len0, Fr.l_len, Fr.l_tk0, Fr.l_tk, Fr.o_map, Fr.o_bind, Fr.b_and1, Fr.b_and0, Fr.b_or1, Fr.b_or0, Fr.b_andr, Fr.b_not1, Fr.b_not0, Fr.b_nef, Fr.b_net, Fr.o_none1, Fr.o_none2, Fr.size_0, Fr.d_true, Fr.d_false, Fr.b_tt, Fr.b_ft, Fr.wipe_nil, Fr.wipe_one, Fr.back_nil, Fr.back_one, Fr.e_yes, ↓reduceIte, Nat.reduceSub, Nat.reduceAdd, Nat.reduceLeDiff, Nat.reduceLT, Nat.reduceEqDiff, Int.reduceLT, Int.reduceLE, Int.reduceEq, Int.reduceAdd, Int.reduceSub, Int.reduceNeg, reduceCtorEq, $xs,*] $[$l:location]?)
/-! mirrors of further defs that many laws share (as gen.py prints them) -/
/-! ### zip and < -/
/-! ### databases -/
abbrev Db := List (List (List Nat))
def ctD (rs : List (List Nat)) : D := .tuple (rs.map rwsD)
def dbD (db : Db) : D := .tuple (db.map ctD)
structure DbOk (w : Wd) (n : Nat) (db : Db) : Prop where
  len : db.length = w.tabs.length
  row : ∀ (j : Nat) (t : Tb) (rs : List (List Nat)), w.tabs[j]? = some t → db[j]? = some rs → rs.length ≤ n ∧ Ct w t rs
section
variable {w : Wd}
theorem hasM_of (x : Str) (h1 : (x == "value_count") = false) (h2 : (x == "own_tables") = false) (h3 : (x == "spots") = false) : hasM "Schema" x (scD w) = true := by
  have g : ∀ y : Str, (x == y) = false → x ≠ y := fun y h z => by subst z; simp at h
  simp only [hasM, scD]
  rw [Bool.and_eq_true]
  refine ⟨by simp, ?_⟩
  simp only [lookF]
  rw [if_neg (g _ h1), if_neg (g _ h2), if_neg (g _ h3)]
  rfl
end
end Sh
namespace Sh
open PySem L2 Fr
local macro_rules
  | `(tactic| simp_arith only [$xs,*] $[$l:location]?) => `(tactic| simp -dsimp -implicitDefEqProofs only [Fr.bnd_ok, Fr.bnd_bad, Fr.bnd_ex, Fr.bnd_bnd, Fr.bnd_ite, Fr.e_fzO, Fr.e_fzv, Fr.e_fzo, Fr.e_fzr, Fr.e_fzs, Fr.e_var0, Fr.look_zero, Fr.look_succ, Fr.e_var, Fr.atV_val, Fr.atV_own, Fr.e_c, Fr.e_giv, Fr.e_rvv, Fr.e_rvo, Fr.own1_own, Fr.e_rd1v, Fr.e_rd1r, Fr.e_m2, Fr.e_m1, Fr.toB_bool, Fr.e_mB, Fr.e_and, Fr.e_or, Fr.e_not, Fr.e_andV, Fr.e_orV, Fr.e_notV, Fr.e_ite, Fr.chB_b, Fr.e_ch, Fr.e_anil, Fr.e_acons, Fr.rds_nil, Fr.rds_cons, Fr.e_mN, Fr.valsK_nil, Fr.valsK_cons, Fr.e_tup, Fr.e_lst, Fr.fin_val, Fr.fin_own, Fr.fin_ex, Fr.e_callF, Fr.nd_nil, Fr.nd_val, Fr.nd_ref, Fr.pos_nil, Fr.pos_val, Fr.pos_ref, Fr.arg_val, Fr.own2_own, Fr.arg_ref, Fr.wb_nil, Fr.wb_val, Fr.wb_ref, Fr.e_fn, Fr.rdR_val, Fr.e_meth, Fr.e_ownAt, Fr.tyK_list, Fr.tyK_str, Fr.e_mM, Fr.mutK_some, Fr.e_mut, Fr.e_sl, Fr.e_pno, Fr.toI_int, Fr.e_pI, Fr.itK_some, Fr.seqD_list, Fr.seqD_tuple, Fr.e_iQ, Fr.e_for, Fr.e_lc, Fr.e_gN, Fr.e_gT, Fr.e_gsNil, Fr.e_gsCons, Fr.freeB_none, Fr.freeB_val, Fr.freeB_own, Fr.e_okSet, Fr.e_next, Fr.e_brk, Fr.e_cont, Fr.seqK_next, Fr.seqK_ret, Fr.seqK_brk, Fr.seqK_cont, Fr.e_seq, Fr.e_if, Fr.retK_val, Fr.retK_own, Fr.retK_ref, Fr.e_ret, Fr.e_expr, Fr.e_setV, Fr.ownR_own, Fr.e_setO, Fr.outK_some, Fr.e_sTup, Fr.e_noX, Fr.e_prp, Fr.newO_ok, Fr.e_new, Fr.optK_some, Fr.optK_none, Fr.e_fldO, Fr.idxS_str, Fr.idxR_tup, Fr.idxR_list, Fr.e_idx, Fr.e_get2, Fr.toV_b, Fr.e_inO, Fr.e_frzE, Fr.e_sfrz, Fr.e_fzBt, Fr.e_fzBf, Fr.e_par2, Fr.e_outO, Fr.setR_val, Fr.setR_own, Fr.e_dnil, Fr.e_dcons, Fr.e_disp, Fr.e_isi, Fr.e_isi2, Fr.isiK_int, Fr.isiK_str, Fr.isiK_tup, Fr.isiK_lst, Fr.isiK_non, Fr.isiK2_tup, Fr.isiK2_lst, Fr.isiB_ii, Fr.isiB_bi, Fr.isiB_ti, Fr.isiB_si, Fr.isiB_tt, Fr.isiB_ts, Fr.isiB_ss, Fr.isiB_st, Fr.isiB_lt, Fr.isiB_ll, Fr.isiB_tl, Fr.isiB_tn, Fr.isiB_sn, Fr.one1_val, Fr.enK_list, Fr.enK_tup, Fr.e_iE, Fr.e_iR1, Fr.o_ltI, Fr.o_leI, Fr.o_gtI, Fr.o_geI, Fr.o_eqI, Fr.o_neI, Fr.o_eqS, Fr.o_neS, Fr.o_addI, Fr.o_subI, Fr.o_ixL, Fr.o_ixT, Fr.at0, Fr.at1, Fr.at2, Fr.at3, Fr.o_isNn, Fr.o_lenL, Fr.o_lenT, Fr.o_tupL, Fr.o_tupT, Fr.o_lstL, Fr.o_lstT, Fr.retO_ret, Fr.retO_next, Fr.retO_bad, Fr.retO_ite, Fr.e_run, Fr.outE_nil, Fr.outE_val, Fr.outE_own, Fr.l_map0, Fr.l_map, Fr.l_app0, Fr.l_app1, Fr.l_app, Fr.l_rep0, Fr.l_rep, Fr.l_set0, Fr.l_set, Fr.l_len0, Fr.l_len, Fr.l_tk0, Fr.l_tk, Fr.o_map, Fr.o_bind, Fr.b_and1, Fr.b_and0, Fr.b_or1, Fr.b_or0, Fr.b_andr, Fr.b_not1, Fr.b_not0, Fr.b_nef, Fr.b_net, Fr.o_none1, Fr.o_none2, Fr.size_0, Fr.d_true, Fr.d_false, Fr.b_tt, Fr.b_ft, Fr.wipe_nil, Fr.wipe_one, Fr.back_nil, Fr.back_one, Fr.e_yes, ↓reduceIte, Nat.reduceSub, Nat.reduceAdd, Nat.reduceLeDiff, Nat.reduceLT, Nat.reduceEqDiff, Int.reduceLT, Int.reduceLE, Int.reduceEq, Int.reduceAdd, Int.reduceSub, Int.reduceNeg, reduceCtorEq, $xs,*] $[$l:location]?)
theorem st_ints (v : List Nat) : stD (inD v) = false := st_nat v
theorem pr_row (v : List Nat) : isPr (rwsD v) = false := pr_no fun d hd => by
  obtain ⟨p, _, rfl⟩ := List.mem_map.mp hd
  rfl
theorem pr_ct (rs : List (List Nat)) : isPr (ctD rs) = false := pr_no fun d hd => by
  obtain ⟨p, _, rfl⟩ := List.mem_map.mp hd
  rfl
theorem rng_is (n : Nat) : rngD 0 n = (List.range n).map fun (i : Nat) => PyData.int (i : Nat) := by
  unfold rngD
  refine List.map_congr_left fun i _ => ?_
  simp
section
variable {w : Wd}
theorem st_ct (rs : List (List Nat)) (l : List D) : stD (ctD rs :: l) = false := st_no (x := ctD rs) (by simp) rfl (pr_ct rs)
theorem st_cts (l : Db) : stD (l.map ctD) = false := by
  cases l with
  | nil => rfl
  | cons x l => exact st_ct _ _
end
end Sh
namespace Sh
open PySem L2 Fr
/-! ### in, while -/
theorem gd_rows {w : Wd} (ok : w.Ok) {t : Tb} (ht : t ∈ w.tabs) {rs : List (List Nat)} {n : Nat} (h : ∀ r ∈ rs, RowOk w t r) (hl : rs.length ≤ n) : GdA (n * 25) 1 (rs.map rwsD) := by
  refine GdA.upto (w := 24) (fun d hd => ?_) (by rw [List.length_map]; exact hl)
  obtain ⟨r, hr, rfl⟩ := List.mem_map.mp hd
  exact gd_row ok (ok.tb t ht) (h r hr)
end Sh
namespace Sh
open PySem L2 Fr
local macro_rules
  | `(tactic| simp_arith only [$xs,*] $[$l:location]?) => `(tactic| simp -dsimp -implicitDefEqProofs only [Fr.bnd_ok, Fr.bnd_bad, Fr.bnd_ex, Fr.bnd_bnd, Fr.bnd_ite, Fr.e_fzO, Fr.e_fzv, Fr.e_fzo, Fr.e_fzr, Fr.e_fzs, Fr.e_var0, Fr.look_zero, Fr.look_succ, Fr.e_var, Fr.atV_val, Fr.atV_own, Fr.e_c, Fr.e_giv, Fr.e_rvv, Fr.e_rvo, Fr.own1_own, Fr.e_rd1v, Fr.e_rd1r, Fr.e_m2, Fr.e_m1, Fr.toB_bool, Fr.e_mB, Fr.e_and, Fr.e_or, Fr.e_not, Fr.e_andV, Fr.e_orV, Fr.e_notV, Fr.e_ite, Fr.chB_b, Fr.e_ch, Fr.e_anil, Fr.e_acons, Fr.rds_nil, Fr.rds_cons, Fr.e_mN, Fr.valsK_nil, Fr.valsK_cons, Fr.e_tup, Fr.e_lst, Fr.fin_val, Fr.fin_own, Fr.fin_ex, Fr.e_callF, Fr.nd_nil, Fr.nd_val, Fr.nd_ref, Fr.pos_nil, Fr.pos_val, Fr.pos_ref, Fr.arg_val, Fr.own2_own, Fr.arg_ref, Fr.wb_nil, Fr.wb_val, Fr.wb_ref, Fr.e_fn, Fr.rdR_val, Fr.e_meth, Fr.e_ownAt, Fr.tyK_list, Fr.tyK_str, Fr.e_mM, Fr.mutK_some, Fr.e_mut, Fr.e_sl, Fr.e_pno, Fr.toI_int, Fr.e_pI, Fr.itK_some, Fr.seqD_list, Fr.seqD_tuple, Fr.e_iQ, Fr.e_for, Fr.e_lc, Fr.e_gN, Fr.e_gT, Fr.e_gsNil, Fr.e_gsCons, Fr.freeB_none, Fr.freeB_val, Fr.freeB_own, Fr.e_okSet, Fr.e_next, Fr.e_brk, Fr.e_cont, Fr.seqK_next, Fr.seqK_ret, Fr.seqK_brk, Fr.seqK_cont, Fr.e_seq, Fr.e_if, Fr.retK_val, Fr.retK_own, Fr.retK_ref, Fr.e_ret, Fr.e_expr, Fr.e_setV, Fr.ownR_own, Fr.e_setO, Fr.outK_some, Fr.e_sTup, Fr.e_noX, Fr.e_prp, Fr.newO_ok, Fr.e_new, Fr.optK_some, Fr.optK_none, Fr.e_fldO, Fr.idxS_str, Fr.idxR_tup, Fr.idxR_list, Fr.e_idx, Fr.e_get2, Fr.toV_b, Fr.e_inO, Fr.e_frzE, Fr.e_sfrz, Fr.e_fzBt, Fr.e_fzBf, Fr.e_par2, Fr.e_outO, Fr.setR_val, Fr.setR_own, Fr.e_dnil, Fr.e_dcons, Fr.e_disp, Fr.e_isi, Fr.e_isi2, Fr.isiK_int, Fr.isiK_str, Fr.isiK_tup, Fr.isiK_lst, Fr.isiK_non, Fr.isiK2_tup, Fr.isiK2_lst, Fr.isiB_ii, Fr.isiB_bi, Fr.isiB_ti, Fr.isiB_si, Fr.isiB_tt, Fr.isiB_ts, Fr.isiB_ss, Fr.isiB_st, Fr.isiB_lt, Fr.isiB_ll, Fr.isiB_tl, Fr.isiB_tn, Fr.isiB_sn, Fr.one1_val, Fr.enK_list, Fr.enK_tup, Fr.e_iE, Fr.e_iR1, Fr.o_ltI, Fr.o_leI, Fr.o_gtI, Fr.o_geI, Fr.o_eqI, Fr.o_neI, Fr.o_eqS, Fr.o_neS, Fr.o_addI, Fr.o_subI, Fr.o_ixL, Fr.o_ixT, Fr.at0, Fr.at1, Fr.at2, Fr.at3, Fr.o_isNn, Fr.o_lenL, Fr.o_lenT, Fr.o_tupL, Fr.o_tupT, Fr.o_lstL, Fr.o_lstT, Fr.retO_ret, Fr.retO_next, Fr.retO_bad, Fr.retO_ite, Fr.e_run, Fr.outE_nil, Fr.outE_val, Fr.outE_own, Fr.l_map0, Fr.l_map, Fr.l_app0, Fr.l_app1, Fr.l_app, Fr.l_rep0, Fr.l_rep, Fr.l_set0, Fr.l_set, Fr.l_len0, Fr.l_len, Fr.l_tk0, Fr.l_tk, Fr.o_map, Fr.o_bind, Fr.b_and1, Fr.b_and0, Fr.b_or1, Fr.b_or0, Fr.b_andr, Fr.b_not1, Fr.b_not0, Fr.b_nef, Fr.b_net, Fr.o_none1, Fr.o_none2, Fr.size_0, Fr.d_true, Fr.d_false, Fr.b_tt, Fr.b_ft, Fr.wipe_nil, Fr.wipe_one, Fr.back_nil, Fr.back_one, Fr.e_yes, ↓reduceIte, Nat.reduceSub, Nat.reduceAdd, Nat.reduceLeDiff, Nat.reduceLT, Nat.reduceEqDiff, Int.reduceLT, Int.reduceLE, Int.reduceEq, Int.reduceAdd, Int.reduceSub, Int.reduceNeg, reduceCtorEq, $xs,*] $[$l:location]?)
end Sh
namespace Sh
open PySem L2 Fr
local macro_rules
  | `(tactic| simp_arith only [$xs,*] $[$l:location]?) => `(tactic| simp -dsimp -implicitDefEqProofs only [Fr.bnd_ok, Fr.bnd_bad, Fr.bnd_ex, Fr.bnd_bnd, Fr.bnd_ite, Fr.e_fzO, Fr.e_fzv, Fr.e_fzo, Fr.e_fzr, Fr.e_fzs, Fr.e_var0, Fr.look_zero, Fr.look_succ, Fr.e_var, Fr.atV_val, Fr.atV_own, Fr.e_c, Fr.e_giv, Fr.e_rvv, Fr.e_rvo, Fr.own1_own, Fr.e_rd1v, Fr.e_rd1r, Fr.e_m2, Fr.e_m1, Fr.toB_bool, Fr.e_mB, Fr.e_and, Fr.e_or, Fr.e_not, Fr.e_andV, Fr.e_orV, Fr.e_notV, Fr.e_ite, Fr.chB_b, Fr.e_ch, Fr.e_anil, Fr.e_acons, Fr.rds_nil, Fr.rds_cons, Fr.e_mN, Fr.valsK_nil, Fr.valsK_cons, Fr.e_tup, Fr.e_lst, Fr.fin_val, Fr.fin_own, Fr.fin_ex, Fr.e_callF, Fr.nd_nil, Fr.nd_val, Fr.nd_ref, Fr.pos_nil, Fr.pos_val, Fr.pos_ref, Fr.arg_val, Fr.own2_own, Fr.arg_ref, Fr.wb_nil, Fr.wb_val, Fr.wb_ref, Fr.e_fn, Fr.rdR_val, Fr.e_meth, Fr.e_ownAt, Fr.tyK_list, Fr.tyK_str, Fr.e_mM, Fr.mutK_some, Fr.e_mut, Fr.e_sl, Fr.e_pno, Fr.toI_int, Fr.e_pI, Fr.itK_some, Fr.seqD_list, Fr.seqD_tuple, Fr.e_iQ, Fr.e_for, Fr.e_lc, Fr.e_gN, Fr.e_gT, Fr.e_gsNil, Fr.e_gsCons, Fr.freeB_none, Fr.freeB_val, Fr.freeB_own, Fr.e_okSet, Fr.e_next, Fr.e_brk, Fr.e_cont, Fr.seqK_next, Fr.seqK_ret, Fr.seqK_brk, Fr.seqK_cont, Fr.e_seq, Fr.e_if, Fr.retK_val, Fr.retK_own, Fr.retK_ref, Fr.e_ret, Fr.e_expr, Fr.e_setV, Fr.ownR_own, Fr.e_setO, Fr.outK_some, Fr.e_sTup, Fr.e_noX, Fr.e_prp, Fr.newO_ok, Fr.e_new, Fr.optK_some, Fr.optK_none, Fr.e_fldO, Fr.idxS_str, Fr.idxR_tup, Fr.idxR_list, Fr.e_idx, Fr.e_get2, Fr.toV_b, Fr.e_inO, Fr.e_frzE, Fr.e_sfrz, Fr.e_fzBt, Fr.e_fzBf, Fr.e_par2, Fr.e_outO, Fr.setR_val, Fr.setR_own, Fr.e_dnil, Fr.e_dcons, Fr.e_disp, Fr.e_isi, Fr.e_isi2, Fr.isiK_int, Fr.isiK_str, Fr.isiK_tup, Fr.isiK_lst, Fr.isiK_non, Fr.isiK2_tup, Fr.isiK2_lst, Fr.isiB_ii, Fr.isiB_bi, Fr.isiB_ti, Fr.isiB_si, Fr.isiB_tt, Fr.isiB_ts, Fr.isiB_ss, Fr.isiB_st, Fr.isiB_lt, Fr.isiB_ll, Fr.isiB_tl, Fr.isiB_tn, Fr.isiB_sn, Fr.one1_val, Fr.enK_list, Fr.enK_tup, Fr.e_iE, Fr.e_iR1, Fr.o_ltI, Fr.o_leI, Fr.o_gtI, Fr.o_geI, Fr.o_eqI, Fr.o_neI, Fr.o_eqS, Fr.o_neS, Fr.o_addI, Fr.o_subI, Fr.o_ixL, Fr.o_ixT, Fr.at0, Fr.at1, Fr.at2, Fr.at3, Fr.o_isNn, Fr.o_lenL, Fr.o_lenT, Fr.o_tupL, Fr.o_tupT, Fr.o_lstL, Fr.o_lstT, Fr.retO_ret, Fr.retO_next, Fr.retO_bad, Fr.retO_ite, Fr.e_run, Fr.outE_nil, Fr.outE_val, Fr.outE_own, Fr.l_map0, Fr.l_map, Fr.l_app0, Fr.l_app1, Fr.l_app, Fr.l_rep0, Fr.l_rep, Fr.l_set0, Fr.l_set, Fr.l_len0, Fr.l_len, Fr.l_tk0, Fr.l_tk, Fr.o_map, Fr.o_bind, Fr.b_and1, Fr.b_and0, Fr.b_or1, Fr.b_or0, Fr.b_andr, Fr.b_not1, Fr.b_not0, Fr.b_nef, Fr.b_net, Fr.o_none1, Fr.o_none2, Fr.size_0, Fr.d_true, Fr.d_false, Fr.b_tt, Fr.b_ft, Fr.wipe_nil, Fr.wipe_one, Fr.back_nil, Fr.back_one, Fr.e_yes, ↓reduceIte, Nat.reduceSub, Nat.reduceAdd, Nat.reduceLeDiff, Nat.reduceLT, Nat.reduceEqDiff, Int.reduceLT, Int.reduceLE, Int.reduceEq, Int.reduceAdd, Int.reduceSub, Int.reduceNeg, reduceCtorEq, $xs,*] $[$l:location]?)
/-! ### what a statement hits -/
def tv : Tm → Nat
  | .val v => v
  | .at _ _ => 0
end Sh
namespace Sh
open PySem L2 Fr
local macro_rules
  | `(tactic| simp_arith only [$xs,*] $[$l:location]?) => `(tactic| simp -dsimp -implicitDefEqProofs only [Fr.bnd_ok, Fr.bnd_bad, Fr.bnd_ex, Fr.bnd_bnd, Fr.bnd_ite, Fr.e_fzO, Fr.e_fzv, Fr.e_fzo, Fr.e_fzr, Fr.e_fzs, Fr.e_var0, Fr.look_zero, Fr.look_succ, Fr.e_var, Fr.atV_val, Fr.atV_own, Fr.e_c, Fr.e_giv, Fr.e_rvv, Fr.e_rvo, Fr.own1_own, Fr.e_rd1v, Fr.e_rd1r, Fr.e_m2, Fr.e_m1, Fr.toB_bool, Fr.e_mB, Fr.e_and, Fr.e_or, Fr.e_not, Fr.e_andV, Fr.e_orV, Fr.e_notV, Fr.e_ite, Fr.chB_b, Fr.e_ch, Fr.e_anil, Fr.e_acons, Fr.rds_nil, Fr.rds_cons, Fr.e_mN, Fr.valsK_nil, Fr.valsK_cons, Fr.e_tup, Fr.e_lst, Fr.fin_val, Fr.fin_own, Fr.fin_ex, Fr.e_callF, Fr.nd_nil, Fr.nd_val, Fr.nd_ref, Fr.pos_nil, Fr.pos_val, Fr.pos_ref, Fr.arg_val, Fr.own2_own, Fr.arg_ref, Fr.wb_nil, Fr.wb_val, Fr.wb_ref, Fr.e_fn, Fr.rdR_val, Fr.e_meth, Fr.e_ownAt, Fr.tyK_list, Fr.tyK_str, Fr.e_mM, Fr.mutK_some, Fr.e_mut, Fr.e_sl, Fr.e_pno, Fr.toI_int, Fr.e_pI, Fr.itK_some, Fr.seqD_list, Fr.seqD_tuple, Fr.e_iQ, Fr.e_for, Fr.e_lc, Fr.e_gN, Fr.e_gT, Fr.e_gsNil, Fr.e_gsCons, Fr.freeB_none, Fr.freeB_val, Fr.freeB_own, Fr.e_okSet, Fr.e_next, Fr.e_brk, Fr.e_cont, Fr.seqK_next, Fr.seqK_ret, Fr.seqK_brk, Fr.seqK_cont, Fr.e_seq, Fr.e_if, Fr.retK_val, Fr.retK_own, Fr.retK_ref, Fr.e_ret, Fr.e_expr, Fr.e_setV, Fr.ownR_own, Fr.e_setO, Fr.outK_some, Fr.e_sTup, Fr.e_noX, Fr.e_prp, Fr.newO_ok, Fr.e_new, Fr.optK_some, Fr.optK_none, Fr.e_fldO, Fr.idxS_str, Fr.idxR_tup, Fr.idxR_list, Fr.e_idx, Fr.e_get2, Fr.toV_b, Fr.e_inO, Fr.e_frzE, Fr.e_sfrz, Fr.e_fzBt, Fr.e_fzBf, Fr.e_par2, Fr.e_outO, Fr.setR_val, Fr.setR_own, Fr.e_dnil, Fr.e_dcons, Fr.e_disp, Fr.e_isi, Fr.e_isi2, Fr.isiK_int, Fr.isiK_str, Fr.isiK_tup, Fr.isiK_lst, Fr.isiK_non, Fr.isiK2_tup, Fr.isiK2_lst, Fr.isiB_ii, Fr.isiB_bi, Fr.isiB_ti, Fr.isiB_si, Fr.isiB_tt, Fr.isiB_ts, Fr.isiB_ss, Fr.isiB_st, Fr.isiB_lt, Fr.isiB_ll, Fr.isiB_tl, Fr.isiB_tn, Fr.isiB_sn, Fr.one1_val, Fr.enK_list, Fr.enK_tup, Fr.e_iE, Fr.e_iR1, Fr.o_ltI, Fr.o_leI, Fr.o_gtI, Fr.o_geI, Fr.o_eqI, Fr.o_neI, Fr.o_eqS, Fr.o_neS, Fr.o_addI, Fr.o_subI, Fr.o_ixL, Fr.o_ixT, Fr.at0, Fr.at1, Fr.at2, Fr.at3, Fr.o_isNn, Fr.o_lenL, Fr.o_lenT, Fr.o_tupL, Fr.o_tupT, Fr.o_lstL, Fr.o_lstT, Fr.retO_ret, Fr.retO_next, Fr.retO_bad, Fr.retO_ite, Fr.e_run, Fr.outE_nil, Fr.outE_val, Fr.outE_own, Fr.l_map0, Fr.l_map, Fr.l_app0, Fr.l_app1, Fr.l_app, Fr.l_rep0, Fr.l_rep, Fr.l_set0, Fr.l_set, Fr.l_len0, Fr.l_len, Fr.l_tk0, Fr.l_tk, Fr.o_map, Fr.o_bind, Fr.b_and1, Fr.b_and0, Fr.b_or1, Fr.b_or0, Fr.b_andr, Fr.b_not1, Fr.b_not0, Fr.b_nef, Fr.b_net, Fr.o_none1, Fr.o_none2, Fr.size_0, Fr.d_true, Fr.d_false, Fr.b_tt, Fr.b_ft, Fr.wipe_nil, Fr.wipe_one, Fr.back_nil, Fr.back_one, Fr.e_yes, ↓reduceIte, Nat.reduceSub, Nat.reduceAdd, Nat.reduceLeDiff, Nat.reduceLT, Nat.reduceEqDiff, Int.reduceLT, Int.reduceLE, Int.reduceEq, Int.reduceAdd, Int.reduceSub, Int.reduceNeg, reduceCtorEq, $xs,*] $[$l:location]?)
structure Ru where
  nm : Str
  tb : Tb
  ev : Str
  cols : List Str
  wh : Str
  lv : Str
  tests : List D
  acts : List D
structure Ru.Ok (w : Wd) (r : Ru) : Prop where
  tb : r.tb ∈ w.tabs
  ev : r.ev ∈ evs
  lv : r.lv ∈ lvs
  co : r.cols.Sublist r.tb.cols
  te : ∀ q ∈ r.tests, Gd 60 4 q
  tl : r.tests.length ≤ 4
  ac : ∀ a ∈ r.acts, Gd 110 4 a
  al : r.acts.length ≤ 3
end Sh
namespace Sh
open PySem L2 Fr
/-! ### statements with values; databases drawn -/
theorem gd_db {w : Wd} (ok : w.Ok) {n : Nat} {db : Db} (h : DbOk w n db) : Gd (3 * (n * 25 + 1)) 3 (dbD db) := by
  have t3 := ok.t3
  refine gd_tup (GdA.upto (n := 3) (w := n * 25) (k := 2) (fun d hd => ?_) (by rw [List.length_map, h.len]; exact t3))
  obtain ⟨rs, hrs, rfl⟩ := List.mem_map.mp hd
  obtain ⟨j, hj⟩ := List.mem_iff_getElem?.mp hrs
  have hl := (List.getElem?_eq_some_iff.mp hj).1
  have ht := List.getElem?_eq_getElem (l := w.tabs) (i := j) (by rw [← h.len]; exact hl)
  obtain ⟨h1, h2⟩ := h.row j _ rs ht hj
  exact gd_tup (gd_rows ok (List.mem_of_getElem? ht) h2.rows h1)
end Sh
namespace Sh
open PySem L2 Fr
local macro_rules
  | `(tactic| simp_arith only [$xs,*] $[$l:location]?) => `(tactic| simp -dsimp -implicitDefEqProofs only [Fr.bnd_ok, Fr.bnd_bad, Fr.bnd_ex, Fr.bnd_bnd, Fr.bnd_ite, Fr.e_fzO, Fr.e_fzv, Fr.e_fzo, Fr.e_fzr, Fr.e_fzs, Fr.e_var0, Fr.look_zero, Fr.look_succ, Fr.e_var, Fr.atV_val, Fr.atV_own, Fr.e_c, Fr.e_giv, Fr.e_rvv, Fr.e_rvo, Fr.own1_own, Fr.e_rd1v, Fr.e_rd1r, Fr.e_m2, Fr.e_m1, Fr.toB_bool, Fr.e_mB, Fr.e_and, Fr.e_or, Fr.e_not, Fr.e_andV, Fr.e_orV, Fr.e_notV, Fr.e_ite, Fr.chB_b, Fr.e_ch, Fr.e_anil, Fr.e_acons, Fr.rds_nil, Fr.rds_cons, Fr.e_mN, Fr.valsK_nil, Fr.valsK_cons, Fr.e_tup, Fr.e_lst, Fr.fin_val, Fr.fin_own, Fr.fin_ex, Fr.e_callF, Fr.nd_nil, Fr.nd_val, Fr.nd_ref, Fr.pos_nil, Fr.pos_val, Fr.pos_ref, Fr.arg_val, Fr.own2_own, Fr.arg_ref, Fr.wb_nil, Fr.wb_val, Fr.wb_ref, Fr.e_fn, Fr.rdR_val, Fr.e_meth, Fr.e_ownAt, Fr.tyK_list, Fr.tyK_str, Fr.e_mM, Fr.mutK_some, Fr.e_mut, Fr.e_sl, Fr.e_pno, Fr.toI_int, Fr.e_pI, Fr.itK_some, Fr.seqD_list, Fr.seqD_tuple, Fr.e_iQ, Fr.e_for, Fr.e_lc, Fr.e_gN, Fr.e_gT, Fr.e_gsNil, Fr.e_gsCons, Fr.freeB_none, Fr.freeB_val, Fr.freeB_own, Fr.e_okSet, Fr.e_next, Fr.e_brk, Fr.e_cont, Fr.seqK_next, Fr.seqK_ret, Fr.seqK_brk, Fr.seqK_cont, Fr.e_seq, Fr.e_if, Fr.retK_val, Fr.retK_own, Fr.retK_ref, Fr.e_ret, Fr.e_expr, Fr.e_setV, Fr.ownR_own, Fr.e_setO, Fr.outK_some, Fr.e_sTup, Fr.e_noX, Fr.e_prp, Fr.newO_ok, Fr.e_new, Fr.optK_some, Fr.optK_none, Fr.e_fldO, Fr.idxS_str, Fr.idxR_tup, Fr.idxR_list, Fr.e_idx, Fr.e_get2, Fr.toV_b, Fr.e_inO, Fr.e_frzE, Fr.e_sfrz, Fr.e_fzBt, Fr.e_fzBf, Fr.e_par2, Fr.e_outO, Fr.setR_val, Fr.setR_own, Fr.e_dnil, Fr.e_dcons, Fr.e_disp, Fr.e_isi, Fr.e_isi2, Fr.isiK_int, Fr.isiK_str, Fr.isiK_tup, Fr.isiK_lst, Fr.isiK_non, Fr.isiK2_tup, Fr.isiK2_lst, Fr.isiB_ii, Fr.isiB_bi, Fr.isiB_ti, Fr.isiB_si, Fr.isiB_tt, Fr.isiB_ts, Fr.isiB_ss, Fr.isiB_st, Fr.isiB_lt, Fr.isiB_ll, Fr.isiB_tl, Fr.isiB_tn, Fr.isiB_sn, Fr.one1_val, Fr.enK_list, Fr.enK_tup, Fr.e_iE, Fr.e_iR1, Fr.o_ltI, Fr.o_leI, Fr.o_gtI, Fr.o_geI, Fr.o_eqI, Fr.o_neI, Fr.o_eqS, Fr.o_neS, Fr.o_addI, Fr.o_subI, Fr.o_ixL, Fr.o_ixT, Fr.at0, Fr.at1, Fr.at2, Fr.at3, Fr.o_isNn, Fr.o_lenL, Fr.o_lenT, Fr.o_tupL, Fr.o_tupT, Fr.o_lstL, Fr.o_lstT, Fr.retO_ret, Fr.retO_next, Fr.retO_bad, Fr.retO_ite, Fr.e_run, Fr.outE_nil, Fr.outE_val, Fr.outE_own, Fr.l_map0, Fr.l_map, Fr.l_app0, Fr.l_app1, Fr.l_app, Fr.l_rep0, Fr.l_rep, Fr.l_set0, Fr.l_set, Fr.l_len0, Fr.l_len, Fr.l_tk0, Fr.l_tk, Fr.o_map, Fr.o_bind, Fr.b_and1, Fr.b_and0, Fr.b_or1, Fr.b_or0, Fr.b_andr, Fr.b_not1, Fr.b_not0, Fr.b_nef, Fr.b_net, Fr.o_none1, Fr.o_none2, Fr.size_0, Fr.d_true, Fr.d_false, Fr.b_tt, Fr.b_ft, Fr.wipe_nil, Fr.wipe_one, Fr.back_nil, Fr.back_one, Fr.e_yes, ↓reduceIte, Nat.reduceSub, Nat.reduceAdd, Nat.reduceLeDiff, Nat.reduceLT, Nat.reduceEqDiff, Int.reduceLT, Int.reduceLE, Int.reduceEq, Int.reduceAdd, Int.reduceSub, Int.reduceNeg, reduceCtorEq, $xs,*] $[$l:location]?)
/-! ### dict comprehensions -/
/-! ### dicts whose keys are rows: sets -/
def addK (ks : List (List Nat)) (k : List Nat) : List (List Nat) := if k ∈ ks then ks else ks ++ [k]
def dd (ks : List (List Nat)) : List (List Nat) := ks.foldl addK []
/-! ### sorted lists are one -/
/-! ### change -/
end Sh
namespace Sh
open PySem L2 Fr
local macro_rules
  | `(tactic| simp_arith only [$xs,*] $[$l:location]?) => `(tactic| simp -dsimp -implicitDefEqProofs only [Fr.bnd_ok, Fr.bnd_bad, Fr.bnd_ex, Fr.bnd_bnd, Fr.bnd_ite, Fr.e_fzO, Fr.e_fzv, Fr.e_fzo, Fr.e_fzr, Fr.e_fzs, Fr.e_var0, Fr.look_zero, Fr.look_succ, Fr.e_var, Fr.atV_val, Fr.atV_own, Fr.e_c, Fr.e_giv, Fr.e_rvv, Fr.e_rvo, Fr.own1_own, Fr.e_rd1v, Fr.e_rd1r, Fr.e_m2, Fr.e_m1, Fr.toB_bool, Fr.e_mB, Fr.e_and, Fr.e_or, Fr.e_not, Fr.e_andV, Fr.e_orV, Fr.e_notV, Fr.e_ite, Fr.chB_b, Fr.e_ch, Fr.e_anil, Fr.e_acons, Fr.rds_nil, Fr.rds_cons, Fr.e_mN, Fr.valsK_nil, Fr.valsK_cons, Fr.e_tup, Fr.e_lst, Fr.fin_val, Fr.fin_own, Fr.fin_ex, Fr.e_callF, Fr.nd_nil, Fr.nd_val, Fr.nd_ref, Fr.pos_nil, Fr.pos_val, Fr.pos_ref, Fr.arg_val, Fr.own2_own, Fr.arg_ref, Fr.wb_nil, Fr.wb_val, Fr.wb_ref, Fr.e_fn, Fr.rdR_val, Fr.e_meth, Fr.e_ownAt, Fr.tyK_list, Fr.tyK_str, Fr.e_mM, Fr.mutK_some, Fr.e_mut, Fr.e_sl, Fr.e_pno, Fr.toI_int, Fr.e_pI, Fr.itK_some, Fr.seqD_list, Fr.seqD_tuple, Fr.e_iQ, Fr.e_for, Fr.e_lc, Fr.e_gN, Fr.e_gT, Fr.e_gsNil, Fr.e_gsCons, Fr.freeB_none, Fr.freeB_val, Fr.freeB_own, Fr.e_okSet, Fr.e_next, Fr.e_brk, Fr.e_cont, Fr.seqK_next, Fr.seqK_ret, Fr.seqK_brk, Fr.seqK_cont, Fr.e_seq, Fr.e_if, Fr.retK_val, Fr.retK_own, Fr.retK_ref, Fr.e_ret, Fr.e_expr, Fr.e_setV, Fr.ownR_own, Fr.e_setO, Fr.outK_some, Fr.e_sTup, Fr.e_noX, Fr.e_prp, Fr.newO_ok, Fr.e_new, Fr.optK_some, Fr.optK_none, Fr.e_fldO, Fr.idxS_str, Fr.idxR_tup, Fr.idxR_list, Fr.e_idx, Fr.e_get2, Fr.toV_b, Fr.e_inO, Fr.e_frzE, Fr.e_sfrz, Fr.e_fzBt, Fr.e_fzBf, Fr.e_par2, Fr.e_outO, Fr.setR_val, Fr.setR_own, Fr.e_dnil, Fr.e_dcons, Fr.e_disp, Fr.e_isi, Fr.e_isi2, Fr.isiK_int, Fr.isiK_str, Fr.isiK_tup, Fr.isiK_lst, Fr.isiK_non, Fr.isiK2_tup, Fr.isiK2_lst, Fr.isiB_ii, Fr.isiB_bi, Fr.isiB_ti, Fr.isiB_si, Fr.isiB_tt, Fr.isiB_ts, Fr.isiB_ss, Fr.isiB_st, Fr.isiB_lt, Fr.isiB_ll, Fr.isiB_tl, Fr.isiB_tn, Fr.isiB_sn, Fr.one1_val, Fr.enK_list, Fr.enK_tup, Fr.e_iE, Fr.e_iR1, Fr.o_ltI, Fr.o_leI, Fr.o_gtI, Fr.o_geI, Fr.o_eqI, Fr.o_neI, Fr.o_eqS, Fr.o_neS, Fr.o_addI, Fr.o_subI, Fr.o_ixL, Fr.o_ixT, Fr.at0, Fr.at1, Fr.at2, Fr.at3, Fr.o_isNn, Fr.o_lenL, Fr.o_lenT, Fr.o_tupL, Fr.o_tupT, Fr.o_lstL, Fr.o_lstT, Fr.retO_ret, Fr.retO_next, Fr.retO_bad, Fr.retO_ite, Fr.e_run, Fr.outE_nil, Fr.outE_val, Fr.outE_own, Fr.l_map0, Fr.l_map, Fr.l_app0, Fr.l_app1, Fr.l_app, Fr.l_rep0, Fr.l_rep, Fr.l_set0, Fr.l_set, Fr.l_len0, Fr.l_len, Fr.l_tk0, Fr.l_tk, Fr.o_map, Fr.o_bind, Fr.b_and1, Fr.b_and0, Fr.b_or1, Fr.b_or0, Fr.b_andr, Fr.b_not1, Fr.b_not0, Fr.b_nef, Fr.b_net, Fr.o_none1, Fr.o_none2, Fr.size_0, Fr.d_true, Fr.d_false, Fr.b_tt, Fr.b_ft, Fr.wipe_nil, Fr.wipe_one, Fr.back_nil, Fr.back_one, Fr.e_yes, ↓reduceIte, Nat.reduceSub, Nat.reduceAdd, Nat.reduceLeDiff, Nat.reduceLT, Nat.reduceEqDiff, Int.reduceLT, Int.reduceLE, Int.reduceEq, Int.reduceAdd, Int.reduceSub, Int.reduceNeg, reduceCtorEq, $xs,*] $[$l:location]?)
/-! ### worlds, the name drawn behind the columns -/
end Sh
namespace Sh
open PySem L2 Fr
/-! ### the hashes of short keys differ -/
def nI (r : List Nat) : List Int := r.map fun (v : Nat) => (v : Int)
/-! ### the keys of two dicts together -/
end Sh
namespace Sh
open PySem L2 Fr
local macro_rules
  | `(tactic| simp_arith only [$xs,*] $[$l:location]?) => `(tactic| simp -dsimp -implicitDefEqProofs only [Fr.bnd_ok, Fr.bnd_bad, Fr.bnd_ex, Fr.bnd_bnd, Fr.bnd_ite, Fr.e_fzO, Fr.e_fzv, Fr.e_fzo, Fr.e_fzr, Fr.e_fzs, Fr.e_var0, Fr.look_zero, Fr.look_succ, Fr.e_var, Fr.atV_val, Fr.atV_own, Fr.e_c, Fr.e_giv, Fr.e_rvv, Fr.e_rvo, Fr.own1_own, Fr.e_rd1v, Fr.e_rd1r, Fr.e_m2, Fr.e_m1, Fr.toB_bool, Fr.e_mB, Fr.e_and, Fr.e_or, Fr.e_not, Fr.e_andV, Fr.e_orV, Fr.e_notV, Fr.e_ite, Fr.chB_b, Fr.e_ch, Fr.e_anil, Fr.e_acons, Fr.rds_nil, Fr.rds_cons, Fr.e_mN, Fr.valsK_nil, Fr.valsK_cons, Fr.e_tup, Fr.e_lst, Fr.fin_val, Fr.fin_own, Fr.fin_ex, Fr.e_callF, Fr.nd_nil, Fr.nd_val, Fr.nd_ref, Fr.pos_nil, Fr.pos_val, Fr.pos_ref, Fr.arg_val, Fr.own2_own, Fr.arg_ref, Fr.wb_nil, Fr.wb_val, Fr.wb_ref, Fr.e_fn, Fr.rdR_val, Fr.e_meth, Fr.e_ownAt, Fr.tyK_list, Fr.tyK_str, Fr.e_mM, Fr.mutK_some, Fr.e_mut, Fr.e_sl, Fr.e_pno, Fr.toI_int, Fr.e_pI, Fr.itK_some, Fr.seqD_list, Fr.seqD_tuple, Fr.e_iQ, Fr.e_for, Fr.e_lc, Fr.e_gN, Fr.e_gT, Fr.e_gsNil, Fr.e_gsCons, Fr.freeB_none, Fr.freeB_val, Fr.freeB_own, Fr.e_okSet, Fr.e_next, Fr.e_brk, Fr.e_cont, Fr.seqK_next, Fr.seqK_ret, Fr.seqK_brk, Fr.seqK_cont, Fr.e_seq, Fr.e_if, Fr.retK_val, Fr.retK_own, Fr.retK_ref, Fr.e_ret, Fr.e_expr, Fr.e_setV, Fr.ownR_own, Fr.e_setO, Fr.outK_some, Fr.e_sTup, Fr.e_noX, Fr.e_prp, Fr.newO_ok, Fr.e_new, Fr.optK_some, Fr.optK_none, Fr.e_fldO, Fr.idxS_str, Fr.idxR_tup, Fr.idxR_list, Fr.e_idx, Fr.e_get2, Fr.toV_b, Fr.e_inO, Fr.e_frzE, Fr.e_sfrz, Fr.e_fzBt, Fr.e_fzBf, Fr.e_par2, Fr.e_outO, Fr.setR_val, Fr.setR_own, Fr.e_dnil, Fr.e_dcons, Fr.e_disp, Fr.e_isi, Fr.e_isi2, Fr.isiK_int, Fr.isiK_str, Fr.isiK_tup, Fr.isiK_lst, Fr.isiK_non, Fr.isiK2_tup, Fr.isiK2_lst, Fr.isiB_ii, Fr.isiB_bi, Fr.isiB_ti, Fr.isiB_si, Fr.isiB_tt, Fr.isiB_ts, Fr.isiB_ss, Fr.isiB_st, Fr.isiB_lt, Fr.isiB_ll, Fr.isiB_tl, Fr.isiB_tn, Fr.isiB_sn, Fr.one1_val, Fr.enK_list, Fr.enK_tup, Fr.e_iE, Fr.e_iR1, Fr.o_ltI, Fr.o_leI, Fr.o_gtI, Fr.o_geI, Fr.o_eqI, Fr.o_neI, Fr.o_eqS, Fr.o_neS, Fr.o_addI, Fr.o_subI, Fr.o_ixL, Fr.o_ixT, Fr.at0, Fr.at1, Fr.at2, Fr.at3, Fr.o_isNn, Fr.o_lenL, Fr.o_lenT, Fr.o_tupL, Fr.o_tupT, Fr.o_lstL, Fr.o_lstT, Fr.retO_ret, Fr.retO_next, Fr.retO_bad, Fr.retO_ite, Fr.e_run, Fr.outE_nil, Fr.outE_val, Fr.outE_own, Fr.l_map0, Fr.l_map, Fr.l_app0, Fr.l_app1, Fr.l_app, Fr.l_rep0, Fr.l_rep, Fr.l_set0, Fr.l_set, Fr.l_len0, Fr.l_len, Fr.l_tk0, Fr.l_tk, Fr.o_map, Fr.o_bind, Fr.b_and1, Fr.b_and0, Fr.b_or1, Fr.b_or0, Fr.b_andr, Fr.b_not1, Fr.b_not0, Fr.b_nef, Fr.b_net, Fr.o_none1, Fr.o_none2, Fr.size_0, Fr.d_true, Fr.d_false, Fr.b_tt, Fr.b_ft, Fr.wipe_nil, Fr.wipe_one, Fr.back_nil, Fr.back_one, Fr.e_yes, ↓reduceIte, Nat.reduceSub, Nat.reduceAdd, Nat.reduceLeDiff, Nat.reduceLT, Nat.reduceEqDiff, Int.reduceLT, Int.reduceLE, Int.reduceEq, Int.reduceAdd, Int.reduceSub, Int.reduceNeg, reduceCtorEq, $xs,*] $[$l:location]?)
/-! ### what differs -/
theorem Ct.nd {w : Wd} {t : Tb} {rs : List (List Nat)} (h : Ct w t rs) : (rs.map (·.take t.keys)).Nodup := by
  unfold List.Nodup
  rw [List.pairwise_map]
  exact h.keys.imp fun q e => by rw [e] at q; exact List.lt_irrefl _ q
end Sh
namespace Fr
open PySem L2
/-! ### sets of tuples whose items are numbers and texts -/
section
variable {P : Program} {w : World} {A : Around} {E : Value → Shared → Prop} {s : Shared} {K0 : Type} [DecidableEq K0] {knd : PySem.KeyKind P w K0}
/-! the object -/
def hk0 (knd : PySem.KeyKind P w K0) (k : List K0) : Int := tupleKeyHash knd k
def rw0 (knd : PySem.KeyKind P w K0) (L : List (Addr × List K0)) : List (Int × Value) := L.map fun p => (hk0 knd p.2, Value.ref p.1)
structure KSet (knd : PySem.KeyKind P w K0) (h : Heap) (a : Addr) (L : List (Addr × List K0)) (es : Array (Int × Value)) (ep : Nat) (t : SetTable) : Prop where
  ob : ∃ o, h.get? a = some o ∧ o.ExactSet ∧ o.data = .set es ep t
  rows : es.toList = rw0 knd L
  tab : TabOk t (L.map fun p => hk0 knd p.2)
  nd : (L.map (·.2)).Nodup
  key : ∀ p ∈ L, IsTupleKey knd h p.2 p.1
  led : w.params.followText "set-order" = true ∨ t.led = true
  room : L.length * 5 < t.mask * 3
  few : L.length < 77
variable {a : Addr} {L : List (Addr × List K0)} {es : Array (Int × Value)} {ep : Nat} {t : SetTable}
theorem KSet.size (R : KSet knd s.heap a L es ep t) : es.size = L.length := by
  rw [← Array.length_toList, R.rows, rw0, List.length_map]
theorem KSet.at_ (R : KSet knd s.heap a L es ep t) {i : Nat} {p : Addr × List K0} (h : L[i]? = some p) : es[i]? = some (hk0 knd p.2, Value.ref p.1) := by
  rw [← Array.getElem?_toList, R.rows, rw0, List.getElem?_map, h]; rfl
/-! looking for a key -/
/-! more room -/
/-! a key is added -/
end
end Fr
namespace Fr
open PySem PySem.Spec PyProof.Rows L2
/-! ### set(list of tuples of atoms) -/
section
variable {P : Program} {w : World} {A : Around} {E : Value → Shared → Prop} {s : Shared} {K0 : Type} [DecidableEq K0] {knd : PySem.KeyKind P w K0}
/-- what the set holds when the first i are met -/
structure Met (ks : List (Addr × List K0)) (i : Nat) (L : List (Addr × List K0)) : Prop where
  sub : ∀ p ∈ L, p ∈ ks
  all : ∀ j p, j < i → ks[j]? = some p → p.2 ∈ L.map (·.2)
  len : L.length ≤ i
theorem Met.new {ks L L2 : List (Addr × List K0)} {i : Nat} {x : Addr × List K0} (g : Met ks i L) (e : ks[i]? = some x) (pm : L2.Perm (x :: L)) : Met ks (i + 1) L2 := by
  refine ⟨fun p hp => ?_, fun j p hj hp => ?_, by rw [pm.length_eq, List.length_cons]; exact Nat.succ_le_succ g.len⟩
  · rcases List.mem_cons.mp (pm.mem_iff.mp hp) with rfl | z
    · exact List.mem_of_getElem? e
    · exact g.sub p z
  · refine (pm.map (·.2)).mem_iff.mpr ?_
    rw [List.map_cons]
    rcases Nat.lt_succ_iff_lt_or_eq.mp hj with z | rfl
    · exact List.mem_cons_of_mem _ (g.all j p z hp)
    · rw [e] at hp; cases hp; exact .head _
end
end Fr
namespace Fr
open PySem L2 PyProof.Rows PySem.W
/-! ### sorted(set(list of tuples of numbers and texts)) -/
/-! the tracked set -/
end Fr
namespace Fr
open PySem L2 PyProof.Rows PySem.W
/-! ### sorted(set(xs)), xs a list of tuples of numbers and texts: the mirror -/
/-! the order of data is a whole order -/
end Fr
namespace Fr
open PySem L2 PyProof.Rows PySem.W
/-! ### < of alike data: tuples of numbers and texts, lists of texts -/
end Fr
namespace Fr
open PySem L2 PyProof.Rows PySem.W
/-! ges -/
end Fr
namespace Dk
/-! plain lists: tuples, contents and databases in the order in which the loops make them -/
abbrev Rw := List Nat
abbrev Co := List Rw
abbrev DB := List Co
def snoc (n : Nat) (r : Rw) : List Rw := (List.range n).map fun v => r ++ [v]
def tpl (n : Nat) : Nat → List Rw
  | 0 => [[]]
  | k + 1 => (tpl n k).flatMap (snoc n)
theorem lt_app : ∀ {a b : Rw} (c d : Rw), a.length = b.length → a < b → a ++ c < b ++ d
  | [], [], _, _, _, h => by simp at h
  | x :: a, y :: b, c, d, hl, h => by
    rw [List.cons_append, List.cons_append]
    rw [List.cons_lt_cons_iff] at h ⊢
    rcases h with h | ⟨h1, h2⟩
    · exact .inl h
    · exact .inr ⟨h1, lt_app c d (by simpa using hl) h2⟩
theorem lt_snoc : ∀ (r : Rw) {x y : Nat}, x < y → r ++ [x] < r ++ [y]
  | [], x, y, h => by rw [List.nil_append, List.nil_append, List.cons_lt_cons_iff]; exact .inl h
  | z :: r, x, y, h => by
    rw [List.cons_append, List.cons_append, List.cons_lt_cons_iff]
    exact .inr ⟨rfl, lt_snoc r h⟩
theorem mem_tpl {n : Nat} : ∀ {k : Nat} {r : Rw}, r ∈ tpl n k ↔ r.length = k ∧ ∀ v ∈ r, v < n
  | 0, r => by
    unfold tpl
    rw [List.mem_singleton]
    constructor
    · rintro rfl; exact ⟨rfl, fun v h => (List.not_mem_nil h).elim⟩
    · rintro ⟨h, _⟩; exact List.eq_nil_of_length_eq_zero h
  | k + 1, r => by
    unfold tpl snoc
    rw [List.mem_flatMap]
    constructor
    · rintro ⟨s, hs, hr⟩
      obtain ⟨h1, h2⟩ := mem_tpl.mp hs
      obtain ⟨v, hv, rfl⟩ := List.mem_map.mp hr
      refine ⟨by simp [h1], fun u hu => ?_⟩
      rcases List.mem_append.mp hu with hu | hu
      · exact h2 u hu
      · rw [List.mem_singleton.mp hu]; exact List.mem_range.mp hv
    · rintro ⟨h1, h2⟩
      have hne : r ≠ [] := by intro z; subst z; simp at h1
      refine ⟨r.dropLast, mem_tpl.mpr ⟨by simp [h1], fun v hv => h2 v (List.dropLast_subset _ hv)⟩, ?_⟩
      refine List.mem_map.mpr ⟨r.getLast hne, List.mem_range.mpr (h2 _ (List.getLast_mem hne)), List.dropLast_concat_getLast hne⟩
theorem len_fm {α β : Type} (f : α → List β) (m : Nat) : ∀ (l : List α), (∀ x ∈ l, (f x).length = m) → (l.flatMap f).length = l.length * m
  | [], _ => by simp
  | x :: l, h => by
    rw [List.flatMap_cons, List.length_append, h x (.head _), len_fm f m l fun y hy => h y (.tail _ hy), List.length_cons, Nat.add_mul, Nat.one_mul, Nat.add_comm]
theorem tpl_len (n : Nat) : ∀ k, (tpl n k).length = n ^ k
  | 0 => rfl
  | k + 1 => by
    unfold tpl
    rw [len_fm (snoc n) n _ (fun x _ => by simp [snoc]), tpl_len n k, Nat.pow_succ]
theorem pw_fm {α β : Type} {R : α → α → Prop} {S : β → β → Prop} (f : α → List β) : ∀ (l : List α), l.Pairwise R → (∀ x ∈ l, (f x).Pairwise S) → (∀ x ∈ l, ∀ y ∈ l, R x y → ∀ a ∈ f x, ∀ b ∈ f y, S a b) → (l.flatMap f).Pairwise S
  | [], _, _, _ => .nil
  | x :: l, h, h1, h2 => by
    rw [List.pairwise_cons] at h
    rw [List.flatMap_cons, List.pairwise_append]
    refine ⟨h1 x (.head _), pw_fm f l h.2 (fun y hy => h1 y (.tail _ hy)) (fun y hy z hz => h2 y (.tail _ hy) z (.tail _ hz)), fun a ha b hb => ?_⟩
    obtain ⟨y, hy, hb⟩ := List.mem_flatMap.mp hb
    exact h2 x (.head _) y (.tail _ hy) (h.1 y hy) a ha b hb
theorem tpl_lt (n : Nat) : ∀ k, (tpl n k).Pairwise (· < ·)
  | 0 => by unfold tpl; simp
  | k + 1 => by
    unfold tpl
    refine pw_fm (R := fun a b => a < b) (snoc n) _ (tpl_lt n k) (fun x _ => ?_) fun x hx y hy hxy a ha b hb => ?_
    · unfold snoc
      rw [List.pairwise_map]
      exact List.pairwise_lt_range.imp fun q => lt_snoc x q
    · obtain ⟨u, _, rfl⟩ := List.mem_map.mp ha
      obtain ⟨v, _, rfl⟩ := List.mem_map.mp hb
      exact lt_app _ _ (by rw [(mem_tpl.mp hx).1, (mem_tpl.mp hy).1]) hxy
/-! ### contents -/
def lots (n m k : Nat) (key : Rw) : List Co := [] :: (tpl n (m - k)).map fun rest => [key ++ rest]
def cstep (n m k : Nat) (found : List Co) (key : Rw) : List Co := found.flatMap fun c => (lots n m k key).map fun lot => c ++ lot
def cts (n m k : Nat) : List Co := (tpl n k).foldl (cstep n m k) [[]]
/-- a content whose keys are taken out of `keys`, in order -/
inductive Tl (n m k : Nat) : List Rw → Co → Prop
  | nil : Tl n m k [] []
  | skip {key : Rw} {ks : List Rw} {c : Co} : Tl n m k ks c → Tl n m k (key :: ks) c
  | take {key rest : Rw} {ks : List Rw} {c : Co} : rest ∈ tpl n (m - k) → Tl n m k ks c → Tl n m k (key :: ks) ((key ++ rest) :: c)
theorem mem_fold {n m k : Nat} : ∀ (keys : List Rw) (acc : List Co) (c : Co), c ∈ keys.foldl (cstep n m k) acc ↔ ∃ a ∈ acc, ∃ d, Tl n m k keys d ∧ c = a ++ d
  | [], acc, c => by
    rw [List.foldl_nil]
    constructor
    · intro h; exact ⟨c, h, [], .nil, by simp⟩
    · rintro ⟨a, h, d, hd, rfl⟩; cases hd; simpa using h
  | key :: keys, acc, c => by
    rw [List.foldl_cons, mem_fold keys]
    constructor
    · rintro ⟨a, ha, d, hd, rfl⟩
      unfold cstep at ha
      obtain ⟨b, hb, ha⟩ := List.mem_flatMap.mp ha
      obtain ⟨lot, hl, rfl⟩ := List.mem_map.mp ha
      unfold lots at hl
      rcases List.mem_cons.mp hl with rfl | hl
      · exact ⟨b, hb, d, .skip hd, by simp⟩
      · obtain ⟨rest, hr, rfl⟩ := List.mem_map.mp hl
        exact ⟨b, hb, (key ++ rest) :: d, .take hr hd, by simp⟩
    · rintro ⟨a, ha, d, hd, rfl⟩
      cases hd with
      | skip hd => exact ⟨a, List.mem_flatMap.mpr ⟨a, ha, List.mem_map.mpr ⟨[], .head _, by simp⟩⟩, _, hd, rfl⟩
      | @take _ rest _ c hr hd => exact ⟨a ++ [key ++ rest], List.mem_flatMap.mpr ⟨a, ha, List.mem_map.mpr ⟨[key ++ rest], .tail _ (List.mem_map.mpr ⟨rest, hr, rfl⟩), rfl⟩⟩, c, hd, by simp⟩
theorem mem_cts {n m k : Nat} {c : Co} : c ∈ cts n m k ↔ Tl n m k (tpl n k) c := by
  unfold cts
  rw [mem_fold]
  constructor
  · rintro ⟨a, ha, d, hd, rfl⟩
    rw [List.mem_singleton.mp ha]
    exact hd
  · intro h
    exact ⟨[], List.mem_singleton.mpr rfl, c, h, rfl⟩
theorem Tl.keys {n m k : Nat} (hk : k ≤ m) : ∀ {ks : List Rw} {c : Co}, (∀ x ∈ ks, x.length = k ∧ ∀ v ∈ x, v < n) → Tl n m k ks c → (c.map (·.take k)).Sublist ks ∧ ∀ r ∈ c, r.length = m ∧ ∀ v ∈ r, v < n := by
  intro ks c hks h
  induction h with
  | nil => exact ⟨.slnil, fun r hr => (List.not_mem_nil hr).elim⟩
  | skip _ ih =>
    obtain ⟨h1, h2⟩ := ih fun x hx => hks x (.tail _ hx)
    exact ⟨h1.cons _, h2⟩
  | @take key rest ks c hr _ ih =>
    obtain ⟨h1, h2⟩ := ih fun x hx => hks x (.tail _ hx)
    obtain ⟨k1, k2⟩ := hks key (.head _)
    obtain ⟨r1, r2⟩ := mem_tpl.mp hr
    refine ⟨?_, fun r hr => ?_⟩
    · rw [List.map_cons]
      have e : (key ++ rest).take k = key := by rw [← k1, List.take_left']; rfl
      rw [e]
      exact h1.cons₂ _
    · rcases List.mem_cons.mp hr with rfl | hr
      · refine ⟨by rw [List.length_append, k1, r1]; omega, fun v hv => ?_⟩
        rcases List.mem_append.mp hv with hv | hv
        · exact k2 v hv
        · exact r2 v hv
      · exact h2 r hr
/-- a list in strict order whose things stand in a list in strict order is a part of it -/
theorem sub_of : ∀ {ks l : List Rw}, ks.Pairwise (· < ·) → l.Pairwise (· < ·) → (∀ x ∈ l, x ∈ ks) → l.Sublist ks
  | ks, [], _, _, _ => List.nil_sublist _
  | [], x :: l, _, _, h => (List.not_mem_nil (h x (.head _))).elim
  | y :: ks, x :: l, h1, h2, h => by
    rw [List.pairwise_cons] at h1
    have h2' := h2
    rw [List.pairwise_cons] at h2
    by_cases e : x = y
    · subst e
      refine (sub_of h1.2 h2.2 fun z hz => ?_).cons₂ _
      rcases List.mem_cons.mp (h z (.tail _ hz)) with rfl | q
      · exact (List.lt_irrefl _ (h2.1 _ hz)).elim
      · exact q
    · refine (sub_of h1.2 h2' fun z hz => ?_).cons _
      have hx : x ∈ ks := (List.mem_cons.mp (h x (.head _))).resolve_left e
      rcases List.mem_cons.mp hz with rfl | hz
      · exact hx
      · rcases List.mem_cons.mp (h z (.tail _ hz)) with rfl | q
        · exact (List.lt_irrefl z (List.lt_trans (h1.1 _ hx) (h2.1 _ hz))).elim
        · exact q
theorem tl_of {n m k : Nat} (hk : k ≤ m) : ∀ {ks : List Rw} {c : Co}, (c.map (·.take k)).Sublist ks → (∀ r ∈ c, r.length = m ∧ ∀ v ∈ r, v < n) → Tl n m k ks c
  | [], c, h, _ => by
    have : c = [] := by simpa using h
    subst this; exact .nil
  | key :: ks, [], h, h2 => .skip (tl_of hk (List.nil_sublist _) h2)
  | key :: ks, r :: c, h, h2 => by
    rw [List.map_cons] at h
    by_cases e : r.take k = key
    · have h3 : (c.map (·.take k)).Sublist ks := by
        rw [e] at h
        exact List.cons_sublist_cons.mp h
      obtain ⟨r1, r2⟩ := h2 r (.head _)
      have e2 : r = key ++ r.drop k := by rw [← e]; exact (List.take_append_drop k r).symm
      rw [e2]
      exact .take (mem_tpl.mpr ⟨by rw [List.length_drop, r1], fun v hv => r2 v (List.mem_of_mem_drop hv)⟩) (tl_of hk h3 fun x hx => h2 x (.tail _ hx))
    · refine .skip (tl_of hk (by
        rw [List.map_cons]
        cases h with
        | cons _ q => exact q
        | cons_cons _ q => exact (e rfl).elim) h2)
theorem cts_iff {n m k : Nat} (hk : k ≤ m) {c : Co} : c ∈ cts n m k ↔ (∀ r ∈ c, r.length = m ∧ ∀ v ∈ r, v < n) ∧ c.Pairwise fun a b => a.take k < b.take k := by
  rw [mem_cts]
  constructor
  · intro h
    obtain ⟨h1, h2⟩ := Tl.keys hk (fun x hx => mem_tpl.mp hx) h
    refine ⟨h2, ?_⟩
    have := (tpl_lt n k).sublist h1
    rwa [List.pairwise_map] at this
  · rintro ⟨h1, h2⟩
    refine tl_of hk (sub_of (tpl_lt n k) (by rw [List.pairwise_map]; exact h2) fun x hx => ?_) h1
    obtain ⟨r, hr, rfl⟩ := List.mem_map.mp hx
    obtain ⟨r1, r2⟩ := h1 r hr
    exact mem_tpl.mpr ⟨by rw [List.length_take, r1]; omega, fun v hv => r2 v (List.mem_of_mem_take hv)⟩
theorem fold_len {n m k : Nat} : ∀ (keys : List Rw) (acc : List Co), (keys.foldl (cstep n m k) acc).length = acc.length * (1 + n ^ (m - k)) ^ keys.length
  | [], acc => by simp
  | key :: keys, acc => by
    rw [List.foldl_cons, fold_len keys]
    unfold cstep
    rw [len_fm _ (1 + n ^ (m - k)) _ (fun x _ => by simp [lots, tpl_len, Nat.add_comm]), List.length_cons, Nat.pow_succ, Nat.mul_assoc, Nat.mul_comm (1 + n ^ (m - k))]
theorem cts_len (n m k : Nat) : (cts n m k).length = (1 + n ^ (m - k)) ^ (n ^ k) := by
  unfold cts
  rw [fold_len, tpl_len]
  simp
theorem fm_nd {α β : Type} (f : α → List β) : ∀ (l : List α), l.Nodup → (∀ x ∈ l, (f x).Nodup) → (∀ x ∈ l, ∀ y ∈ l, ∀ a, a ∈ f x → a ∈ f y → x = y) → (l.flatMap f).Nodup := by
  intro l h h1 h2
  refine pw_fm (R := fun a b => a ≠ b) f l h h1 fun x hx y hy hxy a ha b hb hab => ?_
  subst hab
  exact hxy (h2 x hx y hy a ha hb)
theorem map_nd {α β : Type} {f : α → β} (hf : ∀ a b, f a = f b → a = b) {l : List α} (h : l.Nodup) : (l.map f).Nodup := by
  unfold List.Nodup
  rw [List.pairwise_map]
  exact h.imp fun q e => q (hf _ _ e)
theorem tpl_nd (n k : Nat) : (tpl n k).Nodup := (tpl_lt n k).imp fun q e => by subst e; exact List.lt_irrefl _ q
theorem lots_nd (n m k : Nat) (key : Rw) : (lots n m k key).Nodup := by
  unfold lots
  refine List.nodup_cons.mpr ⟨fun h => ?_, map_nd (fun a b e => ?_) (tpl_nd n _)⟩
  · obtain ⟨_, _, e⟩ := List.mem_map.mp h; cases e
  · injection e with e1
    exact List.append_cancel_left e1
/-- contents made so far hold keys of the kind seen so far alone -/
theorem fold_nd {n m k : Nat} : ∀ (keys : List Rw) (acc : List Co), keys.Nodup → (∀ x ∈ keys, x.length = k) → acc.Nodup → (∀ c ∈ acc, ∀ r ∈ c, ∀ x ∈ keys, r.take k ≠ x) → (keys.foldl (cstep n m k) acc).Nodup
  | [], acc, _, _, h, _ => h
  | key :: keys, acc, hk, hl, h, hd => by
    rw [List.foldl_cons]
    rw [List.nodup_cons] at hk
    have hkl := hl key (.head _)
    have tk : ∀ rest : Rw, (key ++ rest).take k = key := fun rest => by rw [← hkl, List.take_left']; rfl
    refine fold_nd keys _ hk.2 (fun x hx => hl x (.tail _ hx)) ?_ fun c hc r hr x hx => ?_
    · refine fm_nd _ acc h (fun c _ => map_nd (fun a b e => List.append_cancel_left e) (lots_nd n m k key)) fun c hc d hd' a ha hb => ?_
      obtain ⟨l1, hl1, rfl⟩ := List.mem_map.mp ha
      obtain ⟨l2, hl2, e⟩ := List.mem_map.mp hb
      have nk : ∀ c ∈ acc, ∀ r ∈ c, r.take k ≠ key := fun c hc r hr => hd c hc r hr key (.head _)
      have L : ∀ l ∈ lots n m k key, l = [] ∨ ∃ rest, l = [key ++ rest] := fun l hl => by
        unfold lots at hl
        rcases List.mem_cons.mp hl with h | h
        · exact .inl h
        · obtain ⟨rest, _, rfl⟩ := List.mem_map.mp h; exact .inr ⟨rest, rfl⟩
      rcases L l1 hl1 with rfl | ⟨r1, rfl⟩ <;> rcases L l2 hl2 with rfl | ⟨r2, rfl⟩
      · simpa using e.symm
      · exact (nk c hc (key ++ r2) (by rw [List.append_nil] at e; rw [← e]; simp) (tk _)).elim
      · exact (nk d hd' (key ++ r1) (by rw [List.append_nil] at e; rw [e]; simp) (tk _)).elim
      · exact (List.append_inj_left' e rfl).symm
    · unfold cstep at hc
      obtain ⟨b, hb, hc⟩ := List.mem_flatMap.mp hc
      obtain ⟨lot, hl2, rfl⟩ := List.mem_map.mp hc
      rcases List.mem_append.mp hr with hr | hr
      · exact hd b hb r hr x (.tail _ hx)
      · unfold lots at hl2
        rcases List.mem_cons.mp hl2 with rfl | h2
        · exact (List.not_mem_nil hr).elim
        · obtain ⟨rest, _, rfl⟩ := List.mem_map.mp h2
          rw [List.mem_singleton.mp hr, tk]
          intro z; subst z; exact hk.1 hx
theorem cts_nd (n m k : Nat) : (cts n m k).Nodup := fold_nd _ _ (tpl_nd n k) (fun x hx => (mem_tpl.mp hx).1) (by simp) fun c hc r hr => by rw [List.mem_singleton.mp hc] at hr; exact (List.not_mem_nil hr).elim
/-! ### databases -/
def dstep (found : List DB) (cs : List Co) : List DB := found.flatMap fun d => cs.map fun c => d ++ [c]
def dbs (css : List (List Co)) : List DB := css.foldl dstep [[]]
inductive All2 : DB → List (List Co) → Prop
  | nil : All2 [] []
  | cons {c : Co} {cs : List Co} {d : DB} {css : List (List Co)} : c ∈ cs → All2 d css → All2 (c :: d) (cs :: css)
theorem mem_dbsF : ∀ (css : List (List Co)) (acc : List DB) (d : DB), d ∈ css.foldl dstep acc ↔ ∃ a ∈ acc, ∃ b, All2 b css ∧ d = a ++ b
  | [], acc, d => by
    rw [List.foldl_nil]
    constructor
    · intro h; exact ⟨d, h, [], .nil, by simp⟩
    · rintro ⟨a, h, b, hb, rfl⟩; cases hb; simpa using h
  | cs :: css, acc, d => by
    rw [List.foldl_cons, mem_dbsF css]
    constructor
    · rintro ⟨a, ha, b, hb, rfl⟩
      unfold dstep at ha
      obtain ⟨e, he, ha⟩ := List.mem_flatMap.mp ha
      obtain ⟨c, hc, rfl⟩ := List.mem_map.mp ha
      exact ⟨e, he, c :: b, .cons hc hb, by simp⟩
    · rintro ⟨a, ha, b, hb, rfl⟩
      cases hb with
      | @cons c _ d _ hc hb => exact ⟨a ++ [c], List.mem_flatMap.mpr ⟨a, ha, List.mem_map.mpr ⟨c, hc, rfl⟩⟩, d, hb, by simp⟩
theorem mem_dbs {css : List (List Co)} {d : DB} : d ∈ dbs css ↔ All2 d css := by
  unfold dbs
  rw [mem_dbsF]
  constructor
  · rintro ⟨a, ha, b, hb, rfl⟩; rw [List.mem_singleton.mp ha]; exact hb
  · intro h; exact ⟨[], List.mem_singleton.mpr rfl, d, h, rfl⟩
theorem dbs_lenF : ∀ (css : List (List Co)) (acc : List DB), (css.foldl dstep acc).length = (css.map List.length).foldl (· * ·) acc.length
  | [], acc => rfl
  | cs :: css, acc => by
    rw [List.foldl_cons, dbs_lenF css, List.map_cons, List.foldl_cons]
    unfold dstep
    rw [len_fm _ cs.length _ (fun x _ => by simp)]
theorem dbs_len (css : List (List Co)) : (dbs css).length = (css.map List.length).foldl (· * ·) 1 := by unfold dbs; rw [dbs_lenF]; rfl
theorem dbs_ndF : ∀ (css : List (List Co)) (acc : List DB), (∀ cs ∈ css, cs.Nodup) → acc.Nodup → (css.foldl dstep acc).Nodup
  | [], acc, _, h => h
  | cs :: css, acc, h1, h => by
    rw [List.foldl_cons]
    refine dbs_ndF css _ (fun x hx => h1 x (.tail _ hx)) ?_
    unfold dstep
    refine fm_nd _ acc h (fun d _ => map_nd (fun a b e => by have := List.append_cancel_left e; injection this) (h1 cs (.head _))) fun c _ d _ a ha hb => ?_
    obtain ⟨x, _, rfl⟩ := List.mem_map.mp ha
    obtain ⟨y, _, e⟩ := List.mem_map.mp hb
    exact (List.append_inj_left' e rfl).symm
theorem dbs_nd {css : List (List Co)} (h : ∀ cs ∈ css, cs.Nodup) : (dbs css).Nodup := dbs_ndF css _ h (by simp)
end Dk
namespace Dk
open PySem L2 Fr Sh
/-! ### the order of databases by their ranks -/
def rkN (db : DB) : Nat := (db.map List.length).sum
def rkD (db : DB) : D := .tuple [.int (rkN db : Nat), dbD db]
abbrev Tk := List (Int ⊕ List Nat)
theorem tk_all {α : Type} (f : α → D) (hf : ∀ (a b : α) (r s : Tk), PySem.W.keyToks (f a) ++ r = PySem.W.keyToks (f b) ++ s → a = b ∧ r = s) : ∀ (xs ys : List α) (r s : Tk), PySem.W.keyToksAll (xs.map f) ++ r = PySem.W.keyToksAll (ys.map f) ++ s → xs = ys ∧ r = s
  | [], [], r, s, h => by
    simp only [List.map_nil, PySem.W.keyToksAll, List.cons_append, List.nil_append, List.cons.injEq] at h
    exact ⟨rfl, h.2⟩
  | [], y :: ys, r, s, h => by
    simp only [List.map_nil, List.map_cons, PySem.W.keyToksAll, List.cons_append, List.nil_append, List.cons.injEq, Sum.inl.injEq] at h
    omega
  | x :: xs, [], r, s, h => by
    simp only [List.map_nil, List.map_cons, PySem.W.keyToksAll, List.cons_append, List.nil_append, List.cons.injEq, Sum.inl.injEq] at h
    omega
  | x :: xs, y :: ys, r, s, h => by
    simp only [List.map_cons, PySem.W.keyToksAll, List.cons_append, List.cons.injEq, List.append_assoc] at h
    obtain ⟨rfl, h2⟩ := hf x y _ _ h.2
    obtain ⟨rfl, h3⟩ := tk_all f hf xs ys r s h2
    exact ⟨rfl, h3⟩
theorem tk_int (a b : Nat) (r s : Tk) (h : PySem.W.keyToks (.int (a : Nat)) ++ r = PySem.W.keyToks (.int (b : Nat)) ++ s) : a = b ∧ r = s := by
  simp only [PySem.W.keyToks, List.cons_append, List.nil_append, List.cons.injEq, Sum.inl.injEq] at h
  exact ⟨by omega, h.2⟩
theorem tk_row (a b : List Nat) (r s : Tk) (h : PySem.W.keyToks (rwsD a) ++ r = PySem.W.keyToks (rwsD b) ++ s) : a = b ∧ r = s := tk_all (fun v : Nat => (.int (v : Nat) : D)) tk_int a b r s h
theorem tk_ct (a b : Co) (r s : Tk) (h : PySem.W.keyToks (ctD a) ++ r = PySem.W.keyToks (ctD b) ++ s) : a = b ∧ r = s := tk_all rwsD tk_row a b r s h
theorem tk_db (a b : DB) (r s : Tk) (h : PySem.W.keyToks (dbD a) ++ r = PySem.W.keyToks (dbD b) ++ s) : a = b ∧ r = s := tk_all ctD tk_ct a b r s h
theorem tk_rkD (a : DB) : PySem.W.keyToks (rkD a) = .inl 1 :: .inl (rkN a : Nat) :: .inl 1 :: (PySem.W.keyToks (dbD a) ++ [.inl 0]) := by
  unfold rkD
  simp only [PySem.W.keyToks, PySem.W.keyToksAll, List.cons_append, List.nil_append]
theorem rk_inj {a b : DB} (h : PySem.W.keyToks (rkD a) = PySem.W.keyToks (rkD b)) : a = b := by
  rw [tk_rkD, tk_rkD] at h
  simp only [List.cons.injEq] at h
  exact (tk_db a b _ _ h.2.2.2).1
def rlt (a b : DB) : Prop := PySem.W.dataLt (rkD a) (rkD b) = true
theorem rlt_irrefl (a : DB) : ¬rlt a a := fun h => by
  unfold rlt PySem.W.dataLt at h
  rw [PyProof.Rows.lex_irrefl] at h
  cases h
theorem rlt_trans {a b c : DB} (h : rlt a b) (k : rlt b c) : rlt a c := PyProof.Rows.lex_trans _ _ _ h k
theorem rlt_total {a b : DB} (h : ¬rlt a b) (k : ¬rlt b a) : a = b := rk_inj (PyProof.Rows.lex_total _ _ (by simpa [rlt, PySem.W.dataLt] using h) (by simpa [rlt, PySem.W.dataLt] using k))
def rle : DB → DB → Bool := PySem.W.dataLe false rkD
theorem rle_iff {a b : DB} : rle a b = true ↔ ¬rlt b a := by
  show (!PyProof.Rows.lexLt PyProof.Rows.itemOrd (PySem.W.keyToks (rkD b)) (PySem.W.keyToks (rkD a))) = true ↔ _
  unfold rlt PySem.W.dataLt
  cases PyProof.Rows.lexLt PyProof.Rows.itemOrd (PySem.W.keyToks (rkD b)) (PySem.W.keyToks (rkD a)) <;> simp
def srtDb (l : List DB) : List DB := l.mergeSort rle
theorem srtDb_perm (l : List DB) : (srtDb l).Perm l := List.mergeSort_perm _ _
theorem srtDb_lt {l : List DB} (h : l.Nodup) : (srtDb l).Pairwise rlt := by
  have h1 : (srtDb l).Pairwise (fun a b => rle a b = true) := List.pairwise_mergeSort (le := rle) (fun a b c h1 h2 => by
    rw [rle_iff] at *
    intro q
    by_cases e : rlt b a
    · exact h1 e
    · by_cases e2 : rlt c b
      · exact h2 e2
      · by_cases e3 : rlt a b
        · exact h2 (rlt_trans q e3)
        · have := rlt_total e3 e; subst this; exact h2 q) (fun a b => by
    rw [Bool.or_eq_true, rle_iff, rle_iff]
    by_cases e : rlt b a
    · exact .inr fun q => rlt_irrefl _ (rlt_trans q e)
    · exact .inl e) l
  have h2 : (srtDb l).Nodup := (srtDb_perm l).nodup_iff.mpr h
  refine (h1.and h2).imp fun {a b} ⟨q, n⟩ => ?_
  rw [rle_iff] at q
  by_cases e : rlt a b
  · exact e
  · exact (n (rlt_total e q)).elim
theorem zip_map2 {α β γ : Type} (f : α → β) (g : α → γ) : ∀ l : List α, (l.map f).zip (l.map g) = l.map fun x => (f x, g x)
  | [] => rfl
  | x :: l => by rw [List.map_cons, List.map_cons, List.map_cons, List.zip_cons_cons, zip_map2 f g l]
theorem sortKL_db (l : List DB) : sortKL (l.map dbD) (l.map rkD) = (srtDb l).map dbD := by
  unfold sortKL srtDb
  rw [zip_map2, ← List.map_mergeSort (r := rle) (s := PySem.W.dataLe false Prod.snd) (f := fun x : DB => (dbD x, rkD x)) (l := l) (fun _ _ _ _ => rfl), List.map_map]
  rfl
end Dk
namespace Fr
open PySem L2
/-! ### an owned list, lent to a test as a value -/
end Fr
namespace Dk
open PySem L2 Fr Sh
section
variable {ρ ρ1 : EV}
/-! ### comprehensions with two fors -/
theorem e_lc2 {mi : EV → Out (List D × EV)} {g : Tgm} {vs : List Nat} {mt : EV → Out (Bool × EV)} {inn : EV → List D → Out (List D × EV)} : mLc2 mi g vs mt inn ρ = bnd (mi ρ) fun x => lc2Go g vs mt inn x.1 [] x.2 := rfl
theorem lcIn_map {α : Type} {g : Tgm} {vs : List Nat} {mt : EV → Out (Bool × EV)} {me : EV → Out (Rv × EV)} (enc : α → D) (f : α → D) : ∀ (us : List α) (acc : List D), (∀ t ∈ us, lcStep g vs mt me (enc t) ρ = .ok (some (f t), ρ)) → acc.length + us.length ≤ 200000 → lcIn g vs mt me (us.map enc) acc ρ = .ok (acc ++ us.map f, ρ)
  | [], acc, _, _ => by rw [List.map_nil, List.map_nil, lcIn, List.append_nil]
  | t :: us, acc, hs, hl => by
    have h := hs t (.head _)
    rw [List.length_cons] at hl
    have ih := lcIn_map enc f us (acc ++ [f t]) (fun x hx => hs x (.tail _ hx)) (by rw [List.length_append]; show _ + 1 + _ ≤ _; omega)
    rw [List.map_cons, lcIn]
    unfold lcStep at h
    cases e1 : g (enc t) (wipeE ρ vs) with
    | none => rw [e1] at h; cases h
    | some ρ4 =>
      rw [e1] at h
      change bnd (mt ρ4) _ = _ at h
      dsimp only
      cases e2 : mt ρ4 with
      | bad => rw [e2] at h; cases h
      | ex _ _ _ => rw [e2] at h; cases h
      | ok y =>
        obtain ⟨b, ρ5⟩ := y
        rw [e2] at h
        cases b with
        | false =>
          change Out.ok (none, back ρ vs ρ5) = _ at h
          injection h with h
          injection h with h1 h2
          cases h1
        | true =>
          change bnd (fzO (me ρ5)) _ = _ at h
          dsimp only
          cases e3 : fzO (me ρ5) with
          | bad => rw [e3] at h; cases h
          | ex _ _ _ => rw [e3] at h; cases h
          | ok y =>
            obtain ⟨r, ρ6⟩ := y
            rw [e3] at h
            cases r with
            | own _ => cases h
            | ref _ => cases h
            | val k =>
              change Out.ok (some k, back ρ vs ρ6) = _ at h
              injection h with h
              injection h with h1 h2
              injection h1 with h1
              subst h1
              dsimp only
              rw [if_pos (by rw [sizeLine_eq]; omega), h2, ih, List.map_cons, List.append_assoc]; rfl
def lc2Step (g : Tgm) (vs : List Nat) (mt : EV → Out (Bool × EV)) (inn : EV → List D → Out (List D × EV)) (d : D) (acc : List D) (ρ : EV) : Out (List D × EV) :=
  optK (fun ρ1 => bnd (mt ρ1) fun y => if y.1 = true then bnd (inn y.2 acc) fun z => .ok (z.1, back ρ vs z.2) else .ok (acc, back ρ vs y.2)) (g d (wipeE ρ vs))
theorem lc2_map {α : Type} {g : Tgm} {vs : List Nat} {mt : EV → Out (Bool × EV)} {inn : EV → List D → Out (List D × EV)} (enc : α → D) (f : α → List D) (n : Nat) : ∀ (us : List α) (acc : List D), (∀ t ∈ us, (f t).length ≤ n ∧ ∀ acc, acc.length ≤ 100000 → lc2Step g vs mt inn (enc t) acc ρ = .ok (acc ++ f t, ρ)) → acc.length + n * us.length ≤ 100000 → lc2Go g vs mt inn (us.map enc) acc ρ = .ok (.own (.list (acc ++ us.flatMap f)), ρ)
  | [], acc, _, _ => by rw [List.map_nil, List.flatMap_nil, lc2Go, List.append_nil]
  | t :: us, acc, hs, hl => by
    obtain ⟨hn, h⟩ := hs t (.head _)
    rw [List.length_cons, Nat.mul_succ] at hl
    have h := h acc (by omega)
    have ih := lc2_map enc f n us (acc ++ f t) (fun x hx => hs x (.tail _ hx)) (by rw [List.length_append]; omega)
    rw [List.map_cons, lc2Go]
    unfold lc2Step at h
    cases e1 : g (enc t) (wipeE ρ vs) with
    | none => rw [e1] at h; cases h
    | some ρ4 =>
      rw [e1] at h
      change bnd (mt ρ4) _ = _ at h
      dsimp only
      cases e2 : mt ρ4 with
      | bad => rw [e2] at h; cases h
      | ex _ _ _ => rw [e2] at h; cases h
      | ok y =>
        obtain ⟨b, ρ5⟩ := y
        rw [e2] at h
        cases b with
        | false =>
          change Out.ok (acc, back ρ vs ρ5) = _ at h
          injection h with h
          injection h with h1 h2
          dsimp only
          rw [h2, List.flatMap_cons, ← List.append_assoc, ← h1]
          rw [← h1] at ih
          exact ih
        | true =>
          change bnd (inn ρ5 acc) _ = _ at h
          dsimp only
          cases e3 : inn ρ5 acc with
          | bad => rw [e3] at h; cases h
          | ex _ _ _ => rw [e3] at h; cases h
          | ok y =>
            obtain ⟨r, ρ6⟩ := y
            rw [e3] at h
            change Out.ok (r, back ρ vs ρ6) = _ at h
            injection h with h
            injection h with h1 h2
            dsimp only
            rw [h2, h1, ih, List.flatMap_cons, List.append_assoc]
theorem e_in {mi1 : EV → Out (List D × EV)} {mg1 : Tgm} {vs1 : List Nat} {mt1 : EV → Out (Bool × EV)} {me : EV → Out (Rv × EV)} {ds acc : List D} (h : mi1 ρ = .ok (ds, ρ1)) : mIn mi1 mg1 vs1 mt1 me ρ acc = lcIn mg1 vs1 mt1 me ds acc ρ1 := by
  unfold mIn; rw [h]
end
/-! ### products -/
theorem log_mul (a b : Nat) : (a * b).log2 ≤ a.log2 + b.log2 + 1 := by
  by_cases ha : a = 0
  · subst ha; rw [Nat.zero_mul]; simp
  by_cases hb : b = 0
  · subst hb; rw [Nat.mul_zero]; simp
  have h0 : a * b ≠ 0 := Nat.mul_ne_zero ha hb
  have h1 : a < 2 ^ (a.log2 + 1) := (Nat.log2_lt ha).mp (Nat.lt_succ_self _)
  have h2 : b < 2 ^ (b.log2 + 1) := (Nat.log2_lt hb).mp (Nat.lt_succ_self _)
  have h3 : a * b < 2 ^ (a.log2 + b.log2 + 2) := by
    rw [show a.log2 + b.log2 + 2 = (a.log2 + 1) + (b.log2 + 1) by omega, Nat.pow_add]
    exact Nat.mul_lt_mul_of_lt_of_lt h1 h2
  have := (Nat.log2_lt h0).mpr h3
  omega
theorem log_pow {b m : Nat} (hb : b.log2 + 1 ≤ m) : ∀ j, (b ^ j).log2 ≤ m * j
  | 0 => by rw [Nat.pow_zero]; exact Nat.le_trans (by decide : Nat.log2 1 ≤ 0) (Nat.zero_le _)
  | j + 1 => by
    have := log_mul (b ^ j) b
    have ih := log_pow hb j
    rw [Nat.pow_succ, Nat.mul_succ]
    omega
theorem o_mulN {a b : Nat} (h : a.log2 + b.log2 < 1000000) : mulB (.int (a : Nat)) (.int (b : Nat)) = some (.val (.int ((a * b : Nat) : Int))) := by
  have h2 : CMulW (a : Int) (b : Int) := h
  rw [o_mulI h2, Int.natCast_mul]
/-! ### raising, as it computes -/
def raiK (c f : Str) (ρ : EV) : Rv → Out (Fl × EV)
  | .val d => .ex c [(.str f, d)] ρ
  | _ => .bad
theorem raiK_val {c f : Str} {ρ : EV} {d : D} : raiK c f ρ (.val d) = .ex c [(.str f, d)] ρ := rfl
theorem e_raise {c f : Str} {m : EV → Out (Rv × EV)} {ρ : EV} : sRaise c f m ρ = bnd (fzO (m ρ)) fun x => raiK c f x.2 x.1 := by
  unfold sRaise bnd
  cases fzO (m ρ) with
  | ok x => obtain ⟨r, ρ1⟩ := x; cases r <;> rfl
  | _ => rfl
theorem retO_ex {as : EV} {c : Str} {fs : List (D × D)} {ρ : EV} : retO as (.ex c fs ρ) = .ex c fs (outE as ρ) := rfl
/-! ### data that may be compared -/
structure Ly (k : Nat) (d : D) : Prop where
  lay : d.canLay0 = true
  dp : d.depth ≤ k
theorem lyA {k : Nat} : ∀ {ds : List D}, (∀ d ∈ ds, Ly k d) → PyData.canLayAll0 ds = true ∧ PyData.depthAll ds ≤ k
  | [], _ => ⟨rfl, Nat.zero_le _⟩
  | d :: ds, h => by
    obtain ⟨h1, h2⟩ := lyA (ds := ds) fun x hx => h x (.tail _ hx)
    have h0 := h d (.head _)
    constructor
    · rw [PyData.canLayAll0, h0.lay, h1]; rfl
    · rw [PyData.depthAll]; exact Nat.max_le.mpr ⟨h0.dp, h2⟩
theorem ly_tup {k : Nat} {ds : List D} (h : ∀ d ∈ ds, Ly k d) : Ly (k + 1) (.tuple ds) := ⟨by rw [PyData.canLay0]; exact (lyA h).1, by rw [PyData.depth]; exact Nat.succ_le_succ (lyA h).2⟩
theorem ly_int {k : Nat} (i : Int) : Ly k (.int i) := ⟨rfl, Nat.zero_le _⟩
theorem ly_map {α : Type} {k : Nat} {f : α → D} (h : ∀ a, Ly k (f a)) (l : List α) : ∀ d ∈ l.map f, Ly k d := fun d hd => by
  obtain ⟨a, _, rfl⟩ := List.mem_map.mp hd
  exact h a
theorem Ly.mono {k m : Nat} {d : D} (h : Ly k d) (hk : k ≤ m) : Ly m d := ⟨h.lay, Nat.le_trans h.dp hk⟩
theorem ly_row (r : Rw) : Ly 1 (rwsD r) := ly_tup (ly_map (k := 0) (fun v => ly_int _) r)
theorem ly_ct (c : Co) : Ly 2 (ctD c) := ly_tup (ly_map ly_row c)
theorem ly_db (d : DB) : Ly 3 (dbD d) := ly_tup (ly_map ly_ct d)
theorem ly_rk (d : DB) : Ly 4 (rkD d) := ly_tup fun x hx => by
  rcases List.mem_cons.mp hx with rfl | hx
  · exact ly_int _
  · rw [List.mem_singleton.mp hx]; exact ly_db d
theorem al_all {α : Type} {f : α → D} (h : ∀ a b, PySem.W.alike (f a) (f b) = true) : ∀ xs ys : List α, PySem.W.alikeAll (xs.map f) (ys.map f) = true
  | [], _ => by rw [List.map_nil, PySem.W.alikeAll]
  | _ :: _, [] => by rw [List.map_cons, List.map_nil, PySem.W.alikeAll]
  | x :: xs, y :: ys => by rw [List.map_cons, List.map_cons, PySem.W.alikeAll, h, al_all h xs ys]; rfl
theorem al_row (a b : Rw) : PySem.W.alike (rwsD a) (rwsD b) = true := by
  unfold rwsD; rw [PySem.W.alike]; exact al_all (fun a b => by rw [PySem.W.alike]) a b
theorem al_ct (a b : Co) : PySem.W.alike (ctD a) (ctD b) = true := by
  unfold ctD; rw [PySem.W.alike]; exact al_all al_row a b
theorem al_db (a b : DB) : PySem.W.alike (dbD a) (dbD b) = true := by
  unfold dbD; rw [PySem.W.alike]; exact al_all al_ct a b
theorem al_rk (a b : DB) : PySem.W.alike (rkD a) (rkD b) = true := by
  unfold rkD
  rw [PySem.W.alike, PySem.W.alikeAll, PySem.W.alikeAll, PySem.W.alikeAll, al_db, PySem.W.alike]; rfl
theorem sort_rk {l : List DB} (hl : l.length ≤ 1000000) : okSort (l.map rkD) = true := by
  unfold okSort
  simp only [Bool.and_eq_true, decide_eq_true_eq]
  refine ⟨?_, ?_, ?_, by rw [List.length_map]; exact hl⟩
  · unfold aliB
    rw [List.all_eq_true]
    intro d hd
    rw [List.all_eq_true]
    intro e he
    obtain ⟨a, _, rfl⟩ := List.mem_map.mp hd
    obtain ⟨b, _, rfl⟩ := List.mem_map.mp he
    exact al_rk a b
  · unfold srtB
    rw [Bool.or_eq_true]
    left
    rw [List.all_eq_true]
    intro d hd
    obtain ⟨a, _, rfl⟩ := List.mem_map.mp hd
    rfl
  · rw [List.all_eq_true]
    intro d hd
    obtain ⟨a, _, rfl⟩ := List.mem_map.mp hd
    rw [(ly_rk a).lay, decide_eq_true (Nat.le_trans (ly_rk a).dp (by decide))]; rfl
theorem keys_rk {mf : Mf} : ∀ {l : List DB}, (∀ d ∈ l, mf [some (.val (dbD d))] = .ok (.val (rkD d), [some (.val (dbD d))])) → keysM mf (l.map dbD) = some (l.map rkD)
  | [], _ => rfl
  | d :: l, h => by
    rw [List.map_cons, keysM, h d (.head _)]
    dsimp only
    rw [keys_rk fun x hx => h x (.tail _ hx)]; rfl
theorem sortK_db {mf : Mf} {l : List DB} (hl : l.length ≤ 1000000) (h : ∀ d ∈ l, mf [some (.val (dbD d))] = .ok (.val (rkD d), [some (.val (dbD d))])) : sortKD mf (.list (l.map dbD)) = some (.own (.list ((srtDb l).map dbD))) := by
  unfold sortKD
  dsimp only
  rw [keys_rk h]
  dsimp only
  rw [if_pos (sort_rk hl), sortKL_db]
theorem int_sum (l : List Nat) : ((l.map fun (n : Nat) => (n : Int)).sum) = ((l.sum : Nat) : Int) := by
  induction l with
  | nil => rfl
  | cons x l ih => rw [List.map_cons, List.sum_cons, List.sum_cons, ih, Int.natCast_add]
/-! ### databases of a world -/
def cssW (w : Wd) : List (List Co) := w.tabs.map fun t => cts w.size t.cols.length t.keys
def cnt (n : Nat) (l : List (Nat × Nat)) : Nat := (l.map fun p => (1 + n ^ (p.1 - p.2)) ^ (n ^ p.2)).foldl (· * ·) 1
structure DbI (w : Wd) (db : DB) : Prop where
  len : db.length = w.tabs.length
  row : ∀ (j : Nat) (t : Tb) (rs : Co), w.tabs[j]? = some t → db[j]? = some rs → Ct w t rs
theorem all2_iff (w : Wd) : ∀ (ts : List Tb) (db : DB), (∀ t ∈ ts, t.keys ≤ t.cols.length) → (All2 db (ts.map fun t => cts w.size t.cols.length t.keys) ↔ db.length = ts.length ∧ ∀ (j : Nat) (t : Tb) (rs : Co), ts[j]? = some t → db[j]? = some rs → Ct w t rs)
  | [], [], _ => ⟨fun _ => ⟨rfl, fun j t rs h => by simp at h⟩, fun _ => .nil⟩
  | [], _ :: _, _ => ⟨fun h => (nomatch h), fun h => (nomatch h.1)⟩
  | _ :: _, [], _ => ⟨fun h => (nomatch h), fun h => (nomatch h.1)⟩
  | t :: ts, c :: db, hk => by
    have ih := all2_iff w ts db fun x hx => hk x (.tail _ hx)
    have hc : c ∈ cts w.size t.cols.length t.keys ↔ Ct w t c := by
      rw [cts_iff (hk t (.head _))]
      exact ⟨fun ⟨h1, h2⟩ => ⟨h1, h2⟩, fun h => ⟨h.rows, h.keys⟩⟩
    constructor
    · intro h
      cases h with
      | cons h1 h2 =>
        obtain ⟨e1, e2⟩ := ih.mp h2
        refine ⟨by rw [List.length_cons, List.length_cons, e1], fun j u rs hu hr => ?_⟩
        cases j with
        | zero =>
          simp at hu hr
          subst hu hr
          exact hc.mp h1
        | succ j => exact e2 j u rs (by simpa using hu) (by simpa using hr)
    · rintro ⟨h1, h2⟩
      refine .cons (hc.mpr (h2 0 t c rfl rfl)) (ih.mpr ⟨by simpa using h1, fun j u rs hu hr => h2 (j + 1) u rs (by simpa using hu) (by simpa using hr)⟩)
theorem mem_dbsW {w : Wd} (ok : w.Ok) {db : DB} : db ∈ dbs (cssW w) ↔ DbI w db := by
  rw [mem_dbs]
  unfold cssW
  rw [all2_iff w w.tabs db fun t ht => (ok.tb t ht).k2]
  exact ⟨fun ⟨a, b⟩ => ⟨a, b⟩, fun ⟨a, b⟩ => ⟨a, b⟩⟩
theorem dbs_lenW (w : Wd) : (dbs (cssW w)).length = cnt w.size (w.tabs.map shT) := by
  rw [dbs_len]
  unfold cssW cnt
  rw [List.map_map, List.map_map]
  congr 1
  refine List.map_congr_left fun t _ => ?_
  show (cts w.size t.cols.length t.keys).length = _
  rw [cts_len]; rfl
theorem dbs_ndW (w : Wd) : (dbs (cssW w)).Nodup := dbs_nd fun cs h => by
  obtain ⟨t, _, rfl⟩ := List.mem_map.mp h
  exact cts_nd _ _ _
end Dk
namespace Fr
open PySem L2
section
variable {ρ ρ' : EV} {a b : EV → Out (Rv × EV)} {ta tb : EV → Out (Bool × EV)} {sa sb : EV → Out (Fl × EV)} {as : EV → Out (List Rv × EV)} {i : Nat} {d e : D} {r : Rv} {ds : List D} {z : Str}
def okXK (ρ : EV) (r : Rv) : Out (Rv × EV) := if okX r = true then .ok (r, ρ) else .bad
theorem okXK_list : okXK ρ (.own (.list ds)) = .ok (.own (.list ds), ρ) := rfl
theorem okXK_str : okXK ρ (.val (.str z)) = .ok (.val (.str z), ρ) := rfl
theorem e_ownX : ownX a ρ = bnd (a ρ) fun x => okXK x.2 x.1 := by
  unfold ownX bnd; cases a ρ <;> rfl
theorem e_tupX : mTupX as ρ = bnd (as ρ) fun x => valsK x.1 fun ds => if ds.length ≤ sizeLine ∧ lstr ds = true ∧ stD ds = false then .ok (.val (.tuple ds), x.2) else .bad := by
  unfold mTupX bnd; cases as ρ <;> try rfl
  rename_i x; dsimp only [Out.bind]; rw [valsK_eq]; try (cases mTup.vals x.1 <;> rfl)
def nxK (ρ : EV) : Fl → Out (Fl × EV)
  | .ret r => .ok (.ret r, ρ)
  | _ => .bad
theorem nxK_ret : nxK ρ (.ret r) = .ok (.ret r, ρ) := rfl
theorem e_noNx : noNx sa ρ = bnd (sa ρ) fun x => nxK x.2 x.1 := by
  unfold noNx bnd; cases sa ρ with
  | ok x => obtain ⟨f, ρ1⟩ := x; cases f <;> rfl
  | _ => rfl
end
end Fr
namespace Fr
open PySem L2
section
variable {ρ ρ' : EV} {a b : EV → Out (Rv × EV)} {ta tb : EV → Out (Bool × EV)} {sa sb : EV → Out (Fl × EV)} {i np k nm : Nat} {d e : D}
theorem e_scopeB : sScopeB np i k nm a ta sa tb ρ = if (parOk np ρ && decide (i < ρ.length)) = true then bnd (fzO (a (hideO ρ))) fun x => rdR x.2 x.1 fun d => bnd (ta (x.2.set i (some (.val d)))) fun y => if y.1 = true then noNx sa y.2 else bnd (tb y.2) fun z => if z.1 = true then (if mutOk k nm d = true then .ok (.next, ρ.set i none) else .bad) else .ok (.next, ρ.set i none) else .bad := by
  unfold sScopeB bnd
  by_cases h : (parOk np ρ && decide (i < ρ.length)) = true
  · rw [if_pos h, if_pos h]
    cases fzO (a (hideO ρ)) with
    | ok x => obtain ⟨r, ρ1⟩ := x; cases r <;> rfl
    | _ => rfl
  · rw [if_neg h, if_neg h]
theorem hide_nil : hideO [] = [] := rfl
theorem mutOk1 {a : List D} (h : a.length + nm ≤ sizeLine) : mutOk 1 nm (.tuple [d, .list a]) = true := by
  simp only [mutOk, partsD, List.getElem?_cons_succ, List.getElem?_cons_zero]
  exact decide_eq_true h
end
end Fr
namespace K16
open PySem L2 Fr Sh Dk
local macro_rules
  | `(tactic| simp_arith only [$xs,*] $[$l:location]?) => `(tactic| simp -dsimp -implicitDefEqProofs only [Fr.bnd_ok, Fr.bnd_bad, Fr.bnd_ex, Fr.bnd_bnd, Fr.bnd_ite, Fr.e_fzO, Fr.e_fzv, Fr.e_fzo, Fr.e_fzr, Fr.e_fzs, Fr.e_var0, Fr.look_zero, Fr.look_succ, Fr.e_var, Fr.atV_val, Fr.atV_own, Fr.e_c, Fr.e_giv, Fr.e_rvv, Fr.e_rvo, Fr.own1_own, Fr.e_rd1v, Fr.e_rd1r, Fr.e_m2, Fr.e_m1, Fr.toB_bool, Fr.e_mB, Fr.e_and, Fr.e_or, Fr.e_not, Fr.e_andV, Fr.e_orV, Fr.e_notV, Fr.e_ite, Fr.chB_b, Fr.e_ch, Fr.e_anil, Fr.e_acons, Fr.rds_nil, Fr.rds_cons, Fr.e_mN, Fr.valsK_nil, Fr.valsK_cons, Fr.e_tup, Fr.e_lst, Fr.fin_val, Fr.fin_own, Fr.fin_ex, Fr.e_callF, Fr.nd_nil, Fr.nd_val, Fr.nd_ref, Fr.pos_nil, Fr.pos_val, Fr.pos_ref, Fr.arg_val, Fr.own2_own, Fr.arg_ref, Fr.wb_nil, Fr.wb_val, Fr.wb_ref, Fr.e_fn, Fr.rdR_val, Fr.e_meth, Fr.e_ownAt, Fr.tyK_list, Fr.tyK_str, Fr.e_mM, Fr.mutK_some, Fr.e_mut, Fr.e_sl, Fr.e_pno, Fr.toI_int, Fr.e_pI, Fr.itK_some, Fr.seqD_list, Fr.seqD_tuple, Fr.e_iQ, Fr.e_for, Fr.e_lc, Fr.e_gN, Fr.e_gT, Fr.e_gsNil, Fr.e_gsCons, Fr.freeB_none, Fr.freeB_val, Fr.freeB_own, Fr.e_okSet, Fr.e_next, Fr.e_brk, Fr.e_cont, Fr.seqK_next, Fr.seqK_ret, Fr.seqK_brk, Fr.seqK_cont, Fr.e_seq, Fr.e_if, Fr.retK_val, Fr.retK_own, Fr.retK_ref, Fr.e_ret, Fr.e_expr, Fr.e_setV, Fr.ownR_own, Fr.e_setO, Fr.outK_some, Fr.e_sTup, Fr.e_noX, Fr.e_prp, Fr.newO_ok, Fr.e_new, Fr.optK_some, Fr.optK_none, Fr.e_fldO, Fr.idxS_str, Fr.idxR_tup, Fr.idxR_list, Fr.e_idx, Fr.e_get2, Fr.toV_b, Fr.e_inO, Fr.e_frzE, Fr.e_sfrz, Fr.e_fzBt, Fr.e_fzBf, Fr.e_par2, Fr.e_outO, Fr.setR_val, Fr.setR_own, Fr.e_dnil, Fr.e_dcons, Fr.e_disp, Fr.e_isi, Fr.e_isi2, Fr.isiK_int, Fr.isiK_str, Fr.isiK_tup, Fr.isiK_lst, Fr.isiK_non, Fr.isiK2_tup, Fr.isiK2_lst, Fr.isiB_ii, Fr.isiB_bi, Fr.isiB_ti, Fr.isiB_si, Fr.isiB_tt, Fr.isiB_ts, Fr.isiB_ss, Fr.isiB_st, Fr.isiB_lt, Fr.isiB_ll, Fr.isiB_tl, Fr.isiB_tn, Fr.isiB_sn, Fr.one1_val, Fr.enK_list, Fr.enK_tup, Fr.e_iE, Fr.e_iR1, Fr.o_ltI, Fr.o_leI, Fr.o_gtI, Fr.o_geI, Fr.o_eqI, Fr.o_neI, Fr.o_eqS, Fr.o_neS, Fr.o_addI, Fr.o_subI, Fr.o_ixL, Fr.o_ixT, Fr.at0, Fr.at1, Fr.at2, Fr.at3, Fr.o_isNn, Fr.o_lenL, Fr.o_lenT, Fr.o_tupL, Fr.o_tupT, Fr.o_lstL, Fr.o_lstT, Fr.retO_ret, Fr.retO_next, Fr.retO_bad, Fr.retO_ite, Fr.e_run, Fr.outE_nil, Fr.outE_val, Fr.outE_own, Fr.l_map0, Fr.l_map, Fr.l_app0, Fr.l_app1, Fr.l_app, Fr.l_rep0, Fr.l_rep, Fr.l_set0, Fr.l_set, Fr.l_len0, Fr.l_len, Fr.l_tk0, Fr.l_tk, Fr.o_map, Fr.o_bind, Fr.b_and1, Fr.b_and0, Fr.b_or1, Fr.b_or0, Fr.b_andr, Fr.b_not1, Fr.b_not0, Fr.b_nef, Fr.b_net, Fr.o_none1, Fr.o_none2, Fr.size_0, Fr.d_true, Fr.d_false, Fr.b_tt, Fr.b_ft, Fr.wipe_nil, Fr.wipe_one, Fr.back_nil, Fr.back_one, Fr.e_yes, ↓reduceIte, Nat.reduceSub, Nat.reduceAdd, Nat.reduceLeDiff, Nat.reduceLT, Nat.reduceEqDiff, Int.reduceLT, Int.reduceLE, Int.reduceEq, Int.reduceAdd, Int.reduceSub, Int.reduceNeg, reduceCtorEq, $xs,*] $[$l:location]?)
theorem k_world : K16.m__law_world = Sh.m__law_world := rfl
theorem k_bag : K16.m__law_bag = Sh.m__law_bag := rfl
theorem k_take : K16.m__law_take = Sh.m__law_take := rfl
theorem k_alike : K16.m__law_alike = Sh.m__law_alike := rfl
theorem k_schema : K16.m__law_schema = Sh.m__law_schema := rfl
theorem k_columns : K16.m_Schema_columns = Sh.m_Schema_columns := rfl
theorem szK (n : Nat) (h : n ≤ 100000) : (n ≤ sizeLine) = True := eq_true (by rw [sizeLine_eq]; omega)
/-! ### tuples -/
theorem pow_le {n k : Nat} (hn : n ≤ 4) (hk : k ≤ 3) : n ^ k ≤ 64 := Nat.le_trans (Nat.pow_le_pow_left hn k) (Nat.pow_le_pow_right (by decide) hk : 4 ^ k ≤ 4 ^ 3)
theorem add_one (r : Rw) (v : Nat) (h : r.length ≤ 100) : addD (rwsD r) (.tuple [.int (v : Nat)]) = some (.val (rwsD (r ++ [v]))) := by
  have := o_addT (xs := Sh.inD r) (ys := [.int (v : Nat)]) (by unfold Sh.inD; simp; omega) (by
    have := st_ints (r ++ [v])
    unfold Sh.inD at this ⊢
    rwa [List.map_append] at this)
  show addD (.tuple (Sh.inD r)) _ = _
  rw [this]
  show some (Sl.val (.tuple _)) = some (Sl.val (.tuple _))
  unfold Sh.inD
  rw [List.map_append]; rfl
theorem tuples_eq {n k : Nat} (hn : n ≤ 4) (hk : k ≤ 3) : m_tuples_of [some (.val (.int (n : Nat))), some (.val (.int (k : Nat)))] = .ok (.own (.list ((tpl n k).map rwsD)), [some (.val (.int (n : Nat))), some (.val (.int (k : Nat)))]) := by
  refine W.eq ?_
  simp_arith only [m_tuples_of, b_tuples_of, rgK_small (show k ≤ 1000000 by omega), szK 0 (by decide), szK 1 (by decide)]
  refine w_retb (w_forJ (fun j ρ => ∃ s3, ρ = [some (.val (.int (n : Nat))), some (.val (.int (k : Nat))), some (.own (.list ((tpl n j).map rwsD))), s3, none, none]) ⟨_, rfl⟩ (fun j x ρ1 Q' hd hi hN hR => ?_) (fun ρ1 hi => ?_))
  · obtain ⟨s3, rfl⟩ := hi
    obtain ⟨hj, rfl⟩ := rng_get hd
    have hl : (tpl n j).length ≤ 64 := by rw [tpl_len]; exact pow_le hn (by omega)
    simp_arith only [e_lc2]
    rw [lc2_map rwsD (fun r => (snoc n r).map rwsD) 4 (tpl n j) [] (fun r hr => ⟨by simp [snoc]; omega, fun acc hacc => ?_⟩) (by simp; omega)]
    · rw [List.nil_append, ← List.map_flatMap]
      simp_arith only []
      exact .ok (hN _ ⟨_, rfl⟩)
    · have hrl := (mem_tpl.mp hr).1
      simp_arith only [lc2Step]
      rw [e_in (ds := rngD 0 n) (ρ1 := [some (.val (.int (n : Nat))), some (.val (.int (k : Nat))), some (.val (.list ((tpl n j).map rwsD))), some (.val (.int (j : Nat))), some (.val (rwsD r)), none]) (by simp_arith only [rgK_small (show n ≤ 1000000 by omega)])]
      rw [rng_is, lcIn_map (fun (i : Nat) => PyData.int (i : Nat)) (fun v => rwsD (r ++ [v])) (List.range n) acc (fun v hv => by
        simp_arith only [lcStep, szK 1 (by decide), add_one r v (by omega)]) (by rw [List.length_range]; omega)]
      simp_arith only []
      congr 3
      unfold snoc
      rw [List.map_map]; rfl
  · obtain ⟨s3, rfl⟩ := hi
    rw [rng_len]
    simp_arith only []
    exact .ok rfl
theorem ltuples_eq {n k : Nat} (hn : n ≤ 4) (hk : k ≤ 3) : m__law_tuples [some (.val (.int (n : Nat))), some (.val (.int (k : Nat)))] = .ok (.val (.list ((tpl n k).map rwsD)), [some (.val (.int (n : Nat))), some (.val (.int (k : Nat)))]) := by
  refine W.eq ?_
  simp_arith only [m__law_tuples, b__law_tuples, rgK_small (show k ≤ 1000000 by omega), szK 0 (by decide), szK 1 (by decide)]
  refine w_retb (w_forJ (fun j ρ => ∃ s3 s4 s5, ρ = [some (.val (.int (n : Nat))), some (.val (.int (k : Nat))), some (.val (.list ((tpl n j).map rwsD))), s3, s4, s5, none]) ⟨_, _, _, rfl⟩ (fun j x ρ1 Q' hd hi hN hR => ?_) (fun ρ1 hi => ?_))
  · obtain ⟨s3, s4, s5, rfl⟩ := hi
    obtain ⟨hj, rfl⟩ := rng_get hd
    have hl : (tpl n j).length ≤ 64 := by rw [tpl_len]; exact pow_le hn (by omega)
    simp_arith only [szK 0 (by decide)]
    refine w_bnd (w_forJ (fun i ρ => ∃ s5, ρ = [some (.val (.int (n : Nat))), some (.val (.int (k : Nat))), some (.val (.list ((tpl n j).map rwsD))), some (.val (.int (j : Nat))), some (.val (.list ((((tpl n j).take i).flatMap (snoc n)).map rwsD))), s5, none]) ⟨_, rfl⟩ (fun i x ρ1 Q2 hd hi hN2 hR2 => ?_) (fun ρ1 hi => ?_))
    · obtain ⟨s5, rfl⟩ := hi
      rw [List.getElem?_map] at hd
      obtain ⟨r, hr, rfl⟩ := Option.map_eq_some_iff.mp hd
      have hrl := (mem_tpl.mp (List.mem_of_getElem? hr)).1
      have hfl : (((tpl n j).take i).flatMap (snoc n)).length ≤ 300 := by
        rw [len_fm (snoc n) n _ (fun x _ => by simp [snoc])]
        have : ((tpl n j).take i).length ≤ 64 := by rw [List.length_take]; omega
        have := Nat.mul_le_mul this hn
        omega
      simp_arith only [rgK_small (show n ≤ 1000000 by omega), rng_is]
      refine w_bnd (w_lcM (List.range n) (fun (v : Nat) => PyData.int (v : Nat)) (fun v => rwsD (r ++ [v])) (by rw [List.length_range]; omega) (fun v hv => by simp_arith only [lcStep, szK 1 (by decide), add_one r v (by omega)]) ?_)
      have ea : addD (.list ((((tpl n j).take i).flatMap (snoc n)).map rwsD)) (.list ((List.range n).map fun v => rwsD (r ++ [v]))) = some (.own (.list ((((tpl n j).take (i + 1)).flatMap (snoc n)).map rwsD))) := by
        rw [addD_list _ _ (by rw [List.length_map, List.length_map, List.length_range, sizeLine_eq]; omega)]
        have e1 : ((tpl n j).take (i + 1)).flatMap (snoc n) = ((tpl n j).take i).flatMap (snoc n) ++ snoc n r := by
          rw [List.take_add_one, hr, List.flatMap_append]
          simp
        rw [e1, List.map_append]
        unfold snoc
        rw [List.map_map]; rfl
      simp_arith only [ea]
      exact .ok (hN2 _ ⟨_, rfl⟩)
    · obtain ⟨s5, rfl⟩ := hi
      rw [List.length_map, List.take_length]
      simp_arith only []
      exact .ok (hN _ ⟨_, _, _, rfl⟩)
  · obtain ⟨s3, s4, s5, rfl⟩ := hi
    rw [rng_len]
    simp_arith only []
    exact .ok rfl
/-! ### contents -/
theorem st_rw (l : List Rw) : stD (l.map rwsD) = false := by
  cases l with
  | nil => rfl
  | cons x l => exact st_no (x := rwsD x) (by simp) rfl (pr_row x)
theorem add_ct (a b : Co) (h : a.length + b.length ≤ 1000) : addD (ctD a) (ctD b) = some (.val (ctD (a ++ b))) := by
  unfold ctD
  rw [List.map_append]
  exact o_addT (by rw [List.length_map, List.length_map]; exact h) (by rw [← List.map_append]; exact st_rw _)
theorem add_row (a b : Rw) (h : a.length + b.length ≤ 100) : addD (rwsD a) (rwsD b) = some (.val (rwsD (a ++ b))) := by
  have := o_addT (xs := Sh.inD a) (ys := Sh.inD b) (by unfold Sh.inD; rw [List.length_map, List.length_map]; omega) (by
    have := st_ints (a ++ b)
    unfold Sh.inD at this ⊢
    rwa [List.map_append] at this)
  show addD (.tuple (Sh.inD a)) (.tuple (Sh.inD b)) = _
  rw [this]
  show some (Sl.val (.tuple _)) = some (Sl.val (.tuple _))
  unfold Sh.inD
  rw [List.map_append]
theorem fold_lens {n m k : Nat} : ∀ (keys : List Rw) (acc : List Co) (b : Nat), (∀ c ∈ acc, c.length ≤ b) → ∀ c ∈ keys.foldl (cstep n m k) acc, c.length ≤ b + keys.length
  | [], acc, b, h => by simpa using h
  | key :: keys, acc, b, h => by
    rw [List.foldl_cons]
    intro c hc
    have := fold_lens keys _ (b + 1) (fun d hd => by
      unfold cstep at hd
      obtain ⟨a, ha, hd⟩ := List.mem_flatMap.mp hd
      obtain ⟨lot, hl, rfl⟩ := List.mem_map.mp hd
      have h1 := h a ha
      rw [List.length_append]
      unfold lots at hl
      rcases List.mem_cons.mp hl with rfl | hl
      · simp; omega
      · obtain ⟨_, _, rfl⟩ := List.mem_map.mp hl
        simp; omega) c hc
    rw [List.length_cons]; omega
theorem take_foldl (n m k : Nat) {i : Nat} {key : Rw} (h : (tpl n k)[i]? = some key) : ((tpl n k).take (i + 1)).foldl (cstep n m k) [[]] = cstep n m k (((tpl n k).take i).foldl (cstep n m k) [[]]) key := by
  rw [List.take_add_one, h, List.foldl_append]
  rfl
theorem contents_eq {n m k : Nat} (hn1 : 1 ≤ n) (hn : n ≤ 4) (hm : m ≤ 3) (hk : k ≤ m) (hc : (cts n m k).length ≤ 2000) : m_contents_of [some (.val (.int (n : Nat))), some (.val (.int (m : Nat))), some (.val (.int (k : Nat)))] = .ok (.val (.list ((cts n m k).map ctD)), [some (.val (.int (n : Nat))), some (.val (.int (m : Nat))), some (.val (.int (k : Nat)))]) := by
  refine W.eq ?_
  have hkl : (tpl n k).length ≤ 64 := by rw [tpl_len]; exact pow_le hn (by omega)
  have hrl : (tpl n (m - k)).length ≤ 64 := by rw [tpl_len]; exact pow_le hn (by omega)
  simp_arith only [m_contents_of, b_contents_of, tuples_eq hn (show k ≤ 3 by omega), szK 0 (by decide), szK 1 (by decide)]
  refine w_retb (w_forJ (fun j ρ => ∃ s4 s5, ρ = [some (.val (.int (n : Nat))), some (.val (.int (m : Nat))), some (.val (.int (k : Nat))), some (.val (.list ((((tpl n k).take j).foldl (cstep n m k) [[]]).map ctD))), s4, s5, none, none, none]) ⟨_, _, rfl⟩ (fun j x ρ1 Q' hd hi hN hR => ?_) (fun ρ1 hi => ?_))
  · obtain ⟨s4, s5, rfl⟩ := hi
    rw [List.getElem?_map] at hd
    obtain ⟨key, hkey, rfl⟩ := Option.map_eq_some_iff.mp hd
    have hkm := (mem_tpl.mp (List.mem_of_getElem? hkey)).1
    have hsub : ((m : Nat) : Int) - ((k : Nat) : Int) = ((m - k : Nat) : Int) := by omega
    simp_arith only [szK 0 (by decide), szK 1 (by decide), hsub, tuples_eq hn (show m - k ≤ 3 by omega)]
    refine w_bnd (w_lcM (tpl n (m - k)) rwsD (fun rest => ctD [key ++ rest]) (by omega) (fun rest hr => by
      have := (mem_tpl.mp hr).1
      simp_arith only [lcStep, szK 1 (by decide), add_row key rest (by omega)]; rfl) ?_)
    have ea : addD (.list [.tuple []]) (.list ((tpl n (m - k)).map fun rest => ctD [key ++ rest])) = some (.own (.list ((lots n m k key).map ctD))) := by
      rw [addD_list _ _ (by rw [List.length_map, sizeLine_eq]; simp; omega)]
      unfold lots
      rw [List.map_cons, List.map_map]; rfl
    have hacc : (((tpl n k).take j).foldl (cstep n m k) [[]]).length * (1 + n ^ (m - k)) ≤ 2000 := by
      rw [fold_len]
      have h1 : (1 + n ^ (m - k)) ^ ((tpl n k).take j).length * (1 + n ^ (m - k)) ≤ (1 + n ^ (m - k)) ^ (n ^ k) := by
        rw [← Nat.pow_succ]
        refine Nat.pow_le_pow_right (by omega) ?_
        have := (List.getElem?_eq_some_iff.mp hkey).1
        rw [List.length_take, ← tpl_len n k]; omega
      rw [cts_len] at hc
      simp only [List.length_singleton, Nat.one_mul]
      omega
    have hlots : (lots n m k key).length = 1 + n ^ (m - k) := by simp [lots, tpl_len, Nat.add_comm]
    have hlens := fold_lens (n := n) (m := m) (k := k) ((tpl n k).take j) [[]] 0 (fun c hc => by rw [List.mem_singleton.mp hc]; simp)
    have htl : ((tpl n k).take j).length ≤ 64 := by rw [List.length_take]; omega
    simp_arith only [ea, e_lc2]
    rw [lc2_map ctD (fun c => ((lots n m k key).map fun lot => c ++ lot).map ctD) (1 + n ^ (m - k)) _ [] (fun c hc => ⟨by rw [List.length_map, List.length_map, hlots]; exact Nat.le_refl _, fun acc hacc => ?_⟩) (by rw [Nat.mul_comm]; simp only [List.length_nil]; omega)]
    · rw [List.nil_append, ← List.map_flatMap]
      simp_arith only []
      refine .ok (hN _ ⟨some (.val (rwsD key)), some (.val (.list ((lots n m k key).map ctD))), ?_⟩)
      rw [take_foldl n m k hkey]; rfl
    · have hcl := hlens c hc
      simp_arith only [lc2Step]
      rw [e_in (ds := (lots n m k key).map ctD) (ρ1 := [some (.val (.int (n : Nat))), some (.val (.int (m : Nat))), some (.val (.int (k : Nat))), some (.val (.list ((((tpl n k).take j).foldl (cstep n m k) [[]]).map ctD))), some (.val (rwsD key)), some (.val (.list ((lots n m k key).map ctD))), none, some (.val (ctD c)), none]) (by simp_arith only [])]
      rw [lcIn_map ctD (fun lot => ctD (c ++ lot)) (lots n m k key) acc (fun lot hlot => by
        have hl1 : lot.length ≤ 1 := by
          unfold lots at hlot
          rcases List.mem_cons.mp hlot with rfl | hl
          · simp
          · obtain ⟨_, _, rfl⟩ := List.mem_map.mp hl; simp
        simp_arith only [lcStep, add_ct c lot (by omega)]) (by
        have : n ^ (m - k) ≤ 64 := pow_le hn (by omega)
        omega)]
      simp_arith only []
      congr 3
      rw [List.map_map]; rfl
  · obtain ⟨s4, s5, rfl⟩ := hi
    rw [List.length_map, List.take_length]
    simp_arith only []
    exact .ok rfl
/-! ### powers and counts -/
theorem power_eq {b n : Nat} (hb : b ≤ 100) (hn : n ≤ 64) : m_power [some (.val (.int (b : Nat))), some (.val (.int (n : Nat)))] = .ok (.val (.int ((b ^ n : Nat) : Int)), [some (.val (.int (b : Nat))), some (.val (.int (n : Nat)))]) := by
  refine W.eq ?_
  have hlb : b.log2 + 1 ≤ 7 := by
    by_cases h0 : b = 0
    · subst h0; decide
    · have := (Nat.log2_lt h0 (k := 7)).mpr (by omega)
      omega
  simp_arith only [m_power, b_power, rgK_small (show n ≤ 1000000 by omega)]
  refine w_retb (w_forJ (fun j ρ => ∃ s3, ρ = [some (.val (.int (b : Nat))), some (.val (.int (n : Nat))), some (.val (.int ((b ^ j : Nat) : Int))), s3]) ⟨_, rfl⟩ (fun j x ρ1 Q' hd hi hN hR => ?_) (fun ρ1 hi => ?_))
  · obtain ⟨s3, rfl⟩ := hi
    obtain ⟨hj, rfl⟩ := rng_get hd
    have := log_pow hlb j
    simp_arith only [o_mulN (show (b ^ j).log2 + b.log2 < 1000000 by omega)]
    exact .ok (hN _ ⟨_, by rw [Nat.pow_succ]⟩)
  · obtain ⟨s3, rfl⟩ := hi
    rw [rng_len]
    simp_arith only []
    exact .ok rfl
def fT (w : Wd) (t : Tb) : Nat := (1 + w.size ^ (t.cols.length - t.keys)) ^ (w.size ^ t.keys)
def pr (l : List Nat) : Nat := l.foldl (· * ·) 1
theorem pr_snoc (l : List Nat) (x : Nat) : pr (l ++ [x]) = pr l * x := by unfold pr; rw [List.foldl_append]; rfl
theorem cnt_pr (w : Wd) : cnt w.size (w.tabs.map shT) = pr (w.tabs.map (fT w)) := by unfold cnt pr; rw [List.map_map]; rfl
theorem fT_log {w : Wd} (ok : w.Ok) {t : Tb} (ht : t ∈ w.tabs) : 1 + w.size ^ (t.cols.length - t.keys) ≤ 65 ∧ w.size ^ t.keys ≤ 64 ∧ (fT w t).log2 ≤ 448 := by
  have tok := ok.tb t ht
  have s4 := ok.s4
  have l3 := tok.l3
  have k2 := tok.k2
  have h1 : w.size ^ (t.cols.length - t.keys) ≤ 64 := pow_le s4 (by omega)
  have h2 : w.size ^ t.keys ≤ 64 := pow_le s4 (by omega)
  refine ⟨by omega, h2, ?_⟩
  have hb : (1 + w.size ^ (t.cols.length - t.keys)).log2 + 1 ≤ 7 := by
    have := (Nat.log2_lt (n := 1 + w.size ^ (t.cols.length - t.keys)) (by omega) (k := 7)).mpr (by omega)
    omega
  have := log_pow hb (w.size ^ t.keys)
  unfold fT
  omega
theorem pr_log {l : List Nat} (h : ∀ x ∈ l, x.log2 ≤ 448) : ∀ j, (pr (l.take j)).log2 ≤ 449 * j
  | 0 => by rw [List.take_zero]; exact (by decide : Nat.log2 1 ≤ 449 * 0)
  | j + 1 => by
    have ih := pr_log h j
    rw [List.take_add_one]
    cases e : l[j]? with
    | none => simp only [Option.toList, List.append_nil]; omega
    | some x =>
      have hx := h x (List.mem_of_getElem? e)
      have := log_mul (pr (l.take j)) x
      simp only [Option.toList]
      rw [pr_snoc]; omega
section
variable {w : Wd}
theorem many_eq (ok : w.Ok) : m_Schema_many [some (.val (scD w))] = .ok (.val (.int (cnt w.size (w.tabs.map shT) : Nat)), [some (.val (scD w))]) := by
  have t3 := ok.t3
  refine W.eq ?_
  simp_arith only [m_Schema_many, b_Schema_many, attr_ot]
  refine w_retb (w_forJ (fun j ρ => ∃ s2 s3 s4, ρ = [some (.val (scD w)), some (.val (.int (pr ((w.tabs.map (fT w)).take j) : Nat))), s2, s3, s4]) ⟨_, _, _, rfl⟩ (fun j x ρ1 Q' hd hi hN hR => ?_) (fun ρ1 hi => ?_))
  · obtain ⟨s2, s3, s4, rfl⟩ := hi
    rw [List.getElem?_map] at hd
    obtain ⟨t, ht, rfl⟩ := Option.map_eq_some_iff.mp hd
    have htm := List.mem_of_getElem? ht
    have hj := (List.getElem?_eq_some_iff.mp ht).1
    have tok := ok.tb t htm
    have k2 := tok.k2
    obtain ⟨h1, h2, h3⟩ := fT_log ok htm
    have s4' := ok.s4
    have l3 := tok.l3
    have hsub : ((t.cols.length : Nat) : Int) - ((t.keys : Nat) : Int) = ((t.cols.length - t.keys : Nat) : Int) := by omega
    have h5 : (1 : Int) + ((w.size ^ (t.cols.length - t.keys) : Nat) : Int) = ((1 + w.size ^ (t.cols.length - t.keys) : Nat) : Int) := by omega
    have h4 := pr_log (l := w.tabs.map (fT w)) (fun x hx => by
      obtain ⟨u, hu, rfl⟩ := List.mem_map.mp hx
      exact (fT_log ok hu).2.2) j
    have e4 : pr ((w.tabs.map (fT w)).take (j + 1)) = pr ((w.tabs.map (fT w)).take j) * fT w t := by
      rw [List.take_add_one, List.getElem?_map, ht]
      exact pr_snoc _ _
    have em := o_mulN (a := pr ((w.tabs.map (fT w)).take j)) (b := fT w t) (by omega)
    rw [← e4] at em
    simp_arith only [tbD, attr_vc, List.length_map, hsub, power_eq (show w.size ≤ 100 by omega) (show t.cols.length - t.keys ≤ 64 by omega), power_eq (show w.size ≤ 100 by omega) (show t.keys ≤ 64 by omega), h5, power_eq (show 1 + w.size ^ (t.cols.length - t.keys) ≤ 100 by omega) h2]
    rw [show (1 + w.size ^ (t.cols.length - t.keys)) ^ (w.size ^ t.keys) = fT w t from rfl]
    simp_arith only [em]
    exact .ok (hN _ ⟨_, _, _, rfl⟩)
  · obtain ⟨s2, s3, s4, rfl⟩ := hi
    simp_arith only []
    refine .ok ?_
    rw [List.length_map, cnt_pr, show w.tabs.length = (w.tabs.map (fT w)).length by rw [List.length_map], List.take_length]
theorem rows_eq (ok : w.Ok) {t : Tb} (ht : t ∈ w.tabs) : m_Schema_rows [some (.val (scD w)), some (.val (.str t.name))] = .ok (.own (.list ((tpl w.size t.cols.length).map rwsD)), [some (.val (scD w)), some (.val (.str t.name))]) := by
  have hc : hasM "Schema" "columns" (scD w) = true := hasM_of _ (by decide +kernel) (by decide +kernel) (by decide +kernel)
  simp_arith only [m_Schema_rows, b_Schema_rows, attr_vc, k_columns, columns_eq ok ht, hc, List.length_map, tuples_eq ok.s4 (ok.tb t ht).l3]
end
theorem rank_eq (db : DB) (hl : db.length ≤ 1000) : m_rank_of [some (.val (dbD db))] = .ok (.val (rkD db), [some (.val (dbD db))]) := by
  refine W.eq ?_
  simp_arith only [m_rank_of, b_rank_of, dbD]
  refine w_retb (w_lcM db ctD (fun c => .int (c.length : Nat)) (by omega) (fun c hc => by
    unfold ctD
    simp_arith only [lcStep, List.length_map]) ?_)
  have e1 : intsD (db.map fun c => PyData.int (c.length : Nat)) = some ((db.map List.length).map fun (n : Nat) => (n : Int)) := by
    have : ∀ l : List Co, intsD (l.map fun c => PyData.int (c.length : Nat)) = some ((l.map List.length).map fun (n : Nat) => (n : Int)) := fun l => by
      induction l with
      | nil => rfl
      | cons x l ih => rw [List.map_cons, intsD, ih]; rfl
    exact this db
  have e2 : sumD [.list (db.map fun c => PyData.int (c.length : Nat))] = some (.val (.int (rkN db : Nat))) := by
    show (intsD _).map _ = _
    rw [e1, Option.map_some, int_sum]; rfl
  simp_arith only [e2, szK 2 (by decide)]
  exact .ok rfl
/-! ### databases -/
theorem fold_ge : ∀ (b : List Nat) (a : Nat), (∀ x ∈ b, 1 ≤ x) → a ≤ b.foldl (· * ·) a
  | [], a, _ => Nat.le_refl _
  | x :: b, a, h => by
    rw [List.foldl_cons]
    refine Nat.le_trans ?_ (fold_ge b (a * x) fun y hy => h y (.tail _ hy))
    have := Nat.mul_le_mul_left a (h x (.head _))
    omega
theorem pr_mono {l : List Nat} (h : ∀ x ∈ l, 1 ≤ x) (j : Nat) : pr (l.take j) ≤ pr l := by
  have e : pr l = (l.drop j).foldl (· * ·) (pr (l.take j)) := by
    unfold pr
    rw [← List.foldl_append, List.take_append_drop]
  rw [e]
  exact fold_ge _ _ fun x hx => h x (List.mem_of_mem_drop hx)
theorem pr_pos {l : List Nat} (h : ∀ x ∈ l, 1 ≤ x) : 1 ≤ pr l := by
  have := pr_mono h 0
  rw [List.take_zero] at this
  exact this
theorem add_db (a : DB) (c : Co) (h : a.length ≤ 100) : addD (dbD a) (.tuple [ctD c]) = some (.val (dbD (a ++ [c]))) := by
  have := o_addT (xs := a.map ctD) (ys := [ctD c]) (by rw [List.length_map]; simp; omega) (by
    have := st_cts (a ++ [c])
    rwa [List.map_append] at this)
  show addD (.tuple (a.map ctD)) _ = _
  rw [this]
  show some (Sl.val (.tuple _)) = some (Sl.val (.tuple _))
  rw [List.map_append]; rfl
section
variable {w : Wd}
theorem fT_pos (t : Tb) : 1 ≤ fT w t := Nat.pos_of_ne_zero (by
  unfold fT
  have : 0 < (1 + w.size ^ (t.cols.length - t.keys)) ^ (w.size ^ t.keys) := Nat.pow_pos (by omega)
  omega)
theorem css_len (w : Wd) : (cssW w).map List.length = w.tabs.map (fT w) := by
  unfold cssW
  rw [List.map_map]
  refine List.map_congr_left fun t _ => ?_
  show (cts _ _ _).length = _
  rw [cts_len]; rfl
theorem part_len (w : Wd) (j : Nat) : (((cssW w).take j).foldl dstep [[]]).length = pr ((w.tabs.map (fT w)).take j) := by
  rw [dbs_lenF, List.map_take, css_len]; rfl
theorem part_lens : ∀ (css : List (List Co)) (acc : List DB) (b : Nat), (∀ d ∈ acc, d.length = b) → ∀ d ∈ css.foldl dstep acc, d.length = b + css.length
  | [], acc, b, h => by simpa using h
  | cs :: css, acc, b, h => by
    rw [List.foldl_cons]
    intro d hd
    have := part_lens css _ (b + 1) (fun x hx => by
      unfold dstep at hx
      obtain ⟨e, he, hx⟩ := List.mem_flatMap.mp hx
      obtain ⟨c, _, rfl⟩ := List.mem_map.mp hx
      have := h e he
      simp; omega) d hd
    rw [List.length_cons]; omega
theorem dbs_eq (ok : w.Ok) {most : Nat} (h : cnt w.size (w.tabs.map shT) ≤ most) (h2 : cnt w.size (w.tabs.map shT) ≤ 2000) :
    m_Schema_databases [some (.val (scD w)), some (.val (.int (most : Nat)))] = .ok (.own (.list ((srtDb (dbs (cssW w))).map dbD)), [some (.val (scD w)), some (.val (.int (most : Nat)))]) := by
  have t3 := ok.t3
  have s2 := ok.s2
  have s4 := ok.s4
  have hp : ∀ x ∈ w.tabs.map (fT w), 1 ≤ x := fun x hx => by
    obtain ⟨t, _, rfl⟩ := List.mem_map.mp hx
    exact fT_pos t
  have hob : isOb "Schema" (scD w) = true := rfl
  refine W.eq ?_
  simp_arith only [m_Schema_databases, b_Schema_databases, many_eq ok, hob, attr_ot, decide_eq_false (show ¬(((most : Nat) : Int) < ((cnt w.size (w.tabs.map shT) : Nat) : Int)) by omega), szK 0 (by decide), szK 1 (by decide)]
  refine w_retb (w_forJ (fun j ρ => ∃ s3 s4 s5 s6, ρ = [some (.val (scD w)), some (.val (.int (most : Nat))), some (.val (.list ((((cssW w).take j).foldl dstep [[]]).map dbD))), s3, s4, s5, s6, none, none]) ⟨_, _, _, _, rfl⟩ (fun j x ρ1 Q' hd hi hN hR => ?_) (fun ρ1 hi => ?_))
  · obtain ⟨s3, s4', s5, s6, rfl⟩ := hi
    rw [List.getElem?_map] at hd
    obtain ⟨t, ht, rfl⟩ := Option.map_eq_some_iff.mp hd
    have htm := List.mem_of_getElem? ht
    have hj := (List.getElem?_eq_some_iff.mp ht).1
    have tok := ok.tb t htm
    have hcs : (cssW w)[j]? = some (cts w.size t.cols.length t.keys) := by unfold cssW; rw [List.getElem?_map, ht]; rfl
    have e4 : pr ((w.tabs.map (fT w)).take (j + 1)) = pr ((w.tabs.map (fT w)).take j) * fT w t := by
      rw [List.take_add_one, List.getElem?_map, ht]
      exact pr_snoc _ _
    have h3 := pr_mono hp (j + 1)
    rw [← cnt_pr] at h3
    have h4 : 1 ≤ pr ((w.tabs.map (fT w)).take j) := pr_pos fun x hx => hp x (List.mem_of_mem_take hx)
    have h5 : fT w t ≤ 2000 := by
      have := Nat.mul_le_mul_right (fT w t) h4
      omega
    have hcl : (cts w.size t.cols.length t.keys).length = fT w t := by rw [cts_len]; rfl
    have hpl := part_len w j
    have hlens := part_lens ((cssW w).take j) [[]] 0 (fun d hd => by rw [List.mem_singleton.mp hd]; rfl)
    have htl : ((cssW w).take j).length ≤ 3 := by rw [List.length_take]; omega
    simp_arith only [tbD, attr_vc, List.length_map, contents_eq (show 1 ≤ w.size by omega) s4 tok.l3 tok.k2 (show (cts w.size t.cols.length t.keys).length ≤ 2000 by omega), e_lc2]
    rw [lc2_map dbD (fun d => ((cts w.size t.cols.length t.keys).map fun c => d ++ [c]).map dbD) (fT w t) _ [] (fun d hd => ⟨by rw [List.length_map, List.length_map, hcl]; exact Nat.le_refl _, fun acc hacc => ?_⟩) (by rw [hpl, Nat.mul_comm, ← e4]; simp only [List.length_nil]; omega)]
    · have e5 : ((((cssW w).take j).foldl dstep [[]]).flatMap fun d => (cts w.size t.cols.length t.keys).map fun c => d ++ [c]) = ((cssW w).take (j + 1)).foldl dstep [[]] := by
        rw [List.take_add_one, hcs, List.foldl_append]; rfl
      rw [List.nil_append, ← List.map_flatMap, e5]
      simp_arith only []
      exact .ok (hN _ ⟨_, _, _, _, rfl⟩)
    · have hdl := hlens d hd
      simp_arith only [lc2Step]
      rw [e_in (ds := (cts w.size t.cols.length t.keys).map ctD) (ρ1 := [some (.val (scD w)), some (.val (.int (most : Nat))), some (.val (.list ((((cssW w).take j).foldl dstep [[]]).map dbD))), some (.val (.str t.name)), some (.val (.tuple (t.cols.map .str))), some (.val (.int (t.keys : Nat))), some (.val (.list ((cts w.size t.cols.length t.keys).map ctD))), some (.val (dbD d)), none]) (by simp_arith only [])]
      rw [lcIn_map ctD (fun c => dbD (d ++ [c])) (cts w.size t.cols.length t.keys) acc (fun c hc => by
        simp_arith only [lcStep, szK 1 (by decide), add_db d c (by omega)]) (by omega)]
      simp_arith only []
      congr 3
      rw [List.map_map]; rfl
  · obtain ⟨s3, s4', s5, s6, rfl⟩ := hi
    have hl : (cssW w).length = (w.tabs.map tbD).length := by unfold cssW; rw [List.length_map, List.length_map]
    rw [← hl, List.take_length]
    have hdl : (dbs (cssW w)).length ≤ 2000 := by rw [dbs_lenW]; exact h2
    have es := sortK_db (mf := m_rank_of) (l := dbs (cssW w)) (by omega) (fun d hd => rank_eq d (by rw [((mem_dbsW ok).mp hd).len]; omega))
    rw [show (cssW w).foldl dstep [[]] = dbs (cssW w) from rfl]
    simp_arith only [es]
    exact .ok rfl
theorem dbs_ex (ok : w.Ok) {most : Nat} (h : most < cnt w.size (w.tabs.map shT)) :
    m_Schema_databases [some (.val (scD w)), some (.val (.int (most : Nat)))] = .ex "TooMany" [(.str "limit", .int (most : Nat))] [some (.val (scD w)), some (.val (.int (most : Nat)))] := by
  have hob : isOb "Schema" (scD w) = true := rfl
  simp_arith only [m_Schema_databases, b_Schema_databases, many_eq ok, hob, decide_eq_true (show (((most : Nat) : Int) < ((cnt w.size (w.tabs.map shT) : Nat) : Int)) by omega), e_raise, raiK_val, retO_ex]
end
end K16
namespace Dk
open PySem L2 Fr Sh
/-! ### the same contents and databases, made in another order -/
theorem fm_cons {α β : Type} (f : α → β) (g : α → List β) : ∀ l : List α, (l.flatMap fun c => f c :: g c).Perm (l.map f ++ l.flatMap g)
  | [] => by simp
  | c :: l => by
    rw [List.flatMap_cons, List.map_cons, List.flatMap_cons, List.cons_append, List.cons_append]
    refine List.Perm.cons _ ?_
    have ih := fm_cons f g l
    refine ((List.Perm.refl (g c)).append ih).trans ?_
    rw [← List.append_assoc, ← List.append_assoc]
    exact List.perm_append_comm.append (.refl _)
theorem fm_swap {α β γ : Type} (h : α → β → γ) (m : List β) : ∀ l : List α, (l.flatMap fun c => m.map (h c)).Perm (m.flatMap fun r => l.map fun c => h c r)
  | [] => by
    have : (m.flatMap fun r => ([] : List α).map fun c => h c r) = [] := by
      rw [List.flatMap_eq_nil_iff]; intro x _; rfl
    rw [this]; exact .refl _
  | c :: l => by
    rw [List.flatMap_cons]
    refine ((List.Perm.refl _).append (fm_swap h m l)).trans ?_
    exact (fm_cons (fun r => h c r) (fun r => l.map fun c => h c r) m).symm
def lcstep (n m k : Nat) (found : List Co) (key : Rw) : List Co := found ++ (tpl n (m - k)).flatMap fun rest => found.map fun c => c ++ [key ++ rest]
theorem lcstep_perm (n m k : Nat) (found : List Co) (key : Rw) : (cstep n m k found key).Perm (lcstep n m k found key) := by
  unfold cstep lcstep lots
  have e : (fun c : Co => (([] : Co) :: (tpl n (m - k)).map fun rest => [key ++ rest]).map fun lot => c ++ lot) = fun c => c :: (tpl n (m - k)).map fun rest => c ++ [key ++ rest] := by
    funext c
    rw [List.map_cons, List.append_nil, List.map_map]; rfl
  rw [e]
  refine (fm_cons (fun c : Co => c) (fun c => (tpl n (m - k)).map fun rest => c ++ [key ++ rest]) found).trans ?_
  rw [List.map_id']
  exact (List.Perm.refl _).append (fm_swap (fun (c : Co) rest => c ++ [key ++ rest]) _ found)
theorem cstep_cong (n m k : Nat) {a b : List Co} (h : a.Perm b) (key : Rw) : (cstep n m k a key).Perm (cstep n m k b key) := h.flatMap_right _
def lcts (n m k : Nat) : List Co := (tpl n k).foldl (lcstep n m k) [[]]
theorem lfold_perm (n m k : Nat) : ∀ (keys : List Rw) {a b : List Co}, a.Perm b → (keys.foldl (lcstep n m k) a).Perm (keys.foldl (cstep n m k) b)
  | [], _, _, h => h
  | key :: keys, a, b, h => by
    rw [List.foldl_cons, List.foldl_cons]
    exact lfold_perm n m k keys ((lcstep_perm n m k a key).symm.trans (cstep_cong n m k h key))
theorem lcts_perm (n m k : Nat) : (lcts n m k).Perm (cts n m k) := lfold_perm n m k _ (.refl _)
theorem dstep_cong {a b : List DB} {cs ds : List Co} (h : a.Perm b) (k : cs.Perm ds) : (dstep a cs).Perm (dstep b ds) := by
  unfold dstep
  refine (h.flatMap_right _).trans ?_
  have : ∀ l : List DB, (l.flatMap fun d => cs.map fun c => d ++ [c]).Perm (l.flatMap fun d => ds.map fun c => d ++ [c]) := fun l => by
    induction l with
    | nil => exact .refl _
    | cons x l ih => rw [List.flatMap_cons, List.flatMap_cons]; exact (k.map _).append ih
  exact this b
def lcssW (w : Wd) : List (List Co) := w.tabs.map fun t => lcts w.size t.cols.length t.keys
theorem dfold_perm : ∀ (ts : List Tb) (f g : Tb → List Co), (∀ t ∈ ts, (f t).Perm (g t)) → ∀ {a b : List DB}, a.Perm b → ((ts.map f).foldl dstep a).Perm ((ts.map g).foldl dstep b)
  | [], _, _, _, _, _, h => h
  | t :: ts, f, g, hf, a, b, h => by
    rw [List.map_cons, List.map_cons, List.foldl_cons, List.foldl_cons]
    exact dfold_perm ts f g (fun x hx => hf x (.tail _ hx)) (dstep_cong h (hf t (.head _)))
theorem ldbs_perm (w : Wd) : ((lcssW w).foldl dstep [[]]).Perm (dbs (cssW w)) := dfold_perm _ _ _ (fun t _ => lcts_perm _ _ _) (.refl _)
theorem srtDb_eq {a b : List DB} (h : a.Perm b) (nd : b.Nodup) : srtDb a = srtDb b := by
  have h1 := srtDb_lt (h.nodup_iff.mpr nd)
  have h2 := srtDb_lt nd
  exact List.Perm.eq_of_pairwise (fun x y _ _ p q => (rlt_irrefl _ (rlt_trans p q)).elim) h1 h2 ((srtDb_perm a).trans (h.trans (srtDb_perm b).symm))
theorem sortL_rk (l : List DB) : sortL (l.map rkD) = (srtDb l).map rkD := by
  unfold sortL srtDb
  exact (List.map_mergeSort (r := rle) (s := leD1) (f := rkD) (l := l) (fun _ _ _ _ => rfl)).symm
end Dk
namespace K16
open PySem L2 Fr Sh Dk
local macro_rules
  | `(tactic| simp_arith only [$xs,*] $[$l:location]?) => `(tactic| simp -dsimp -implicitDefEqProofs only [Fr.bnd_ok, Fr.bnd_bad, Fr.bnd_ex, Fr.bnd_bnd, Fr.bnd_ite, Fr.e_fzO, Fr.e_fzv, Fr.e_fzo, Fr.e_fzr, Fr.e_fzs, Fr.e_var0, Fr.look_zero, Fr.look_succ, Fr.e_var, Fr.atV_val, Fr.atV_own, Fr.e_c, Fr.e_giv, Fr.e_rvv, Fr.e_rvo, Fr.own1_own, Fr.e_rd1v, Fr.e_rd1r, Fr.e_m2, Fr.e_m1, Fr.toB_bool, Fr.e_mB, Fr.e_and, Fr.e_or, Fr.e_not, Fr.e_andV, Fr.e_orV, Fr.e_notV, Fr.e_ite, Fr.chB_b, Fr.e_ch, Fr.e_anil, Fr.e_acons, Fr.rds_nil, Fr.rds_cons, Fr.e_mN, Fr.valsK_nil, Fr.valsK_cons, Fr.e_tup, Fr.e_lst, Fr.fin_val, Fr.fin_own, Fr.fin_ex, Fr.e_callF, Fr.nd_nil, Fr.nd_val, Fr.nd_ref, Fr.pos_nil, Fr.pos_val, Fr.pos_ref, Fr.arg_val, Fr.own2_own, Fr.arg_ref, Fr.wb_nil, Fr.wb_val, Fr.wb_ref, Fr.e_fn, Fr.rdR_val, Fr.e_meth, Fr.e_ownAt, Fr.tyK_list, Fr.tyK_str, Fr.e_mM, Fr.mutK_some, Fr.e_mut, Fr.e_sl, Fr.e_pno, Fr.toI_int, Fr.e_pI, Fr.itK_some, Fr.seqD_list, Fr.seqD_tuple, Fr.e_iQ, Fr.e_for, Fr.e_lc, Fr.e_gN, Fr.e_gT, Fr.e_gsNil, Fr.e_gsCons, Fr.freeB_none, Fr.freeB_val, Fr.freeB_own, Fr.e_okSet, Fr.e_next, Fr.e_brk, Fr.e_cont, Fr.seqK_next, Fr.seqK_ret, Fr.seqK_brk, Fr.seqK_cont, Fr.e_seq, Fr.e_if, Fr.retK_val, Fr.retK_own, Fr.retK_ref, Fr.e_ret, Fr.e_expr, Fr.e_setV, Fr.ownR_own, Fr.e_setO, Fr.outK_some, Fr.e_sTup, Fr.e_noX, Fr.e_prp, Fr.newO_ok, Fr.e_new, Fr.optK_some, Fr.optK_none, Fr.e_fldO, Fr.idxS_str, Fr.idxR_tup, Fr.idxR_list, Fr.e_idx, Fr.e_get2, Fr.toV_b, Fr.e_inO, Fr.e_frzE, Fr.e_sfrz, Fr.e_fzBt, Fr.e_fzBf, Fr.e_par2, Fr.e_outO, Fr.setR_val, Fr.setR_own, Fr.e_dnil, Fr.e_dcons, Fr.e_disp, Fr.e_isi, Fr.e_isi2, Fr.isiK_int, Fr.isiK_str, Fr.isiK_tup, Fr.isiK_lst, Fr.isiK_non, Fr.isiK2_tup, Fr.isiK2_lst, Fr.isiB_ii, Fr.isiB_bi, Fr.isiB_ti, Fr.isiB_si, Fr.isiB_tt, Fr.isiB_ts, Fr.isiB_ss, Fr.isiB_st, Fr.isiB_lt, Fr.isiB_ll, Fr.isiB_tl, Fr.isiB_tn, Fr.isiB_sn, Fr.one1_val, Fr.enK_list, Fr.enK_tup, Fr.e_iE, Fr.e_iR1, Fr.o_ltI, Fr.o_leI, Fr.o_gtI, Fr.o_geI, Fr.o_eqI, Fr.o_neI, Fr.o_eqS, Fr.o_neS, Fr.o_addI, Fr.o_subI, Fr.o_ixL, Fr.o_ixT, Fr.at0, Fr.at1, Fr.at2, Fr.at3, Fr.o_isNn, Fr.o_lenL, Fr.o_lenT, Fr.o_tupL, Fr.o_tupT, Fr.o_lstL, Fr.o_lstT, Fr.retO_ret, Fr.retO_next, Fr.retO_bad, Fr.retO_ite, Fr.e_run, Fr.outE_nil, Fr.outE_val, Fr.outE_own, Fr.l_map0, Fr.l_map, Fr.l_app0, Fr.l_app1, Fr.l_app, Fr.l_rep0, Fr.l_rep, Fr.l_set0, Fr.l_set, Fr.l_len0, Fr.l_len, Fr.l_tk0, Fr.l_tk, Fr.o_map, Fr.o_bind, Fr.b_and1, Fr.b_and0, Fr.b_or1, Fr.b_or0, Fr.b_andr, Fr.b_not1, Fr.b_not0, Fr.b_nef, Fr.b_net, Fr.o_none1, Fr.o_none2, Fr.size_0, Fr.d_true, Fr.d_false, Fr.b_tt, Fr.b_ft, Fr.wipe_nil, Fr.wipe_one, Fr.back_nil, Fr.back_one, Fr.e_yes, ↓reduceIte, Nat.reduceSub, Nat.reduceAdd, Nat.reduceLeDiff, Nat.reduceLT, Nat.reduceEqDiff, Int.reduceLT, Int.reduceLE, Int.reduceEq, Int.reduceAdd, Int.reduceSub, Int.reduceNeg, reduceCtorEq, $xs,*] $[$l:location]?)
section
variable {w : Wd}
theorem lcontents_eq (ok : w.Ok) {t : Tb} (ht : t ∈ w.tabs) (hc : (cts w.size t.cols.length t.keys).length ≤ 2000) : m__law_contents [some (.val (wdD w)), some (.val (tbD t))] = .ok (.val (.list ((lcts w.size t.cols.length t.keys).map ctD)), [some (.val (wdD w)), some (.val (tbD t))]) := by
  refine W.eq ?_
  have tok := ok.tb t ht
  have s2 := ok.s2
  have hn := ok.s4
  have hm := tok.l3
  have hk := tok.k2
  have hkl : (tpl w.size t.keys).length ≤ 64 := by rw [tpl_len]; exact pow_le hn (by omega)
  have hrl : (tpl w.size (t.cols.length - t.keys)).length ≤ 64 := by rw [tpl_len]; exact pow_le hn (by omega)
  have hsub : ((t.cols.length : Nat) : Int) - ((t.keys : Nat) : Int) = ((t.cols.length - t.keys : Nat) : Int) := by omega
  simp_arith only [m__law_contents, b__law_contents, tbD, ix_size, List.length_map, hsub, ltuples_eq hn (show t.cols.length - t.keys ≤ 3 by omega), ltuples_eq hn (show t.keys ≤ 3 by omega), szK 0 (by decide), szK 1 (by decide)]
  refine w_retb (w_forJ (fun j ρ => ∃ s7 s8 s9, ρ = [some (.val (wdD w)), some (.val (.tuple [.str t.name, .tuple (t.cols.map .str), .int t.keys])), some (.val (.str t.name)), some (.val (.tuple (t.cols.map .str))), some (.val (.int (t.keys : Nat))), some (.val (.list ((((tpl w.size t.keys).take j).foldl (lcstep w.size t.cols.length t.keys) [[]]).map ctD))), some (.val (.list ((tpl w.size (t.cols.length - t.keys)).map rwsD))), s7, s8, s9, none]) ⟨_, _, _, rfl⟩ (fun j x ρ1 Q' hd hi hN hR => ?_) (fun ρ1 hi => ?_))
  · obtain ⟨s7, s8, s9, rfl⟩ := hi
    rw [List.getElem?_map] at hd
    obtain ⟨key, hkey, rfl⟩ := Option.map_eq_some_iff.mp hd
    have hkm := (mem_tpl.mp (List.mem_of_getElem? hkey)).1
    have hjl := (List.getElem?_eq_some_iff.mp hkey).1
    have hperm := lfold_perm w.size t.cols.length t.keys ((tpl w.size t.keys).take j) (.refl [[]])
    have hlens := fold_lens (n := w.size) (m := t.cols.length) (k := t.keys) ((tpl w.size t.keys).take j) [[]] 0 (fun c hc => by rw [List.mem_singleton.mp hc]; simp)
    have htl : ((tpl w.size t.keys).take j).length ≤ 64 := by rw [List.length_take]; omega
    have hacc : (((tpl w.size t.keys).take j).foldl (lcstep w.size t.cols.length t.keys) [[]]).length * (1 + w.size ^ (t.cols.length - t.keys)) ≤ 2000 := by
      rw [hperm.length_eq, fold_len]
      have h1 : (1 + w.size ^ (t.cols.length - t.keys)) ^ ((tpl w.size t.keys).take j).length * (1 + w.size ^ (t.cols.length - t.keys)) ≤ (1 + w.size ^ (t.cols.length - t.keys)) ^ (w.size ^ t.keys) := by
        rw [← Nat.pow_succ]
        refine Nat.pow_le_pow_right (by omega) ?_
        rw [List.length_take, ← tpl_len w.size t.keys]; omega
      rw [cts_len] at hc
      simp only [List.length_singleton, Nat.one_mul]
      omega
    have hlen2 : ∀ c ∈ ((tpl w.size t.keys).take j).foldl (lcstep w.size t.cols.length t.keys) [[]], c.length ≤ 64 := fun c hc => by
      have := hlens c (hperm.mem_iff.mp hc)
      omega
    have hst : lcstep w.size t.cols.length t.keys (((tpl w.size t.keys).take j).foldl (lcstep w.size t.cols.length t.keys) [[]]) key = ((tpl w.size t.keys).take (j + 1)).foldl (lcstep w.size t.cols.length t.keys) [[]] := by
      rw [List.take_add_one, hkey, List.foldl_append]; rfl
    generalize hA : ((tpl w.size t.keys).take j).foldl (lcstep w.size t.cols.length t.keys) [[]] = acc at hacc hlen2 hst
    have hrl2 : (tpl w.size (t.cols.length - t.keys)).length = w.size ^ (t.cols.length - t.keys) := tpl_len _ _
    generalize hR : tpl w.size (t.cols.length - t.keys) = rests at hrl hrl2
    have hrm : ∀ r ∈ rests, r.length = t.cols.length - t.keys := fun r hr => by rw [← hR] at hr; exact (mem_tpl.mp hr).1
    simp_arith only []
    refine w_bnd (w_forJ (fun i ρ => ∃ s9, ρ = [some (.val (wdD w)), some (.val (.tuple [.str t.name, .tuple (t.cols.map .str), .int t.keys])), some (.val (.str t.name)), some (.val (.tuple (t.cols.map .str))), some (.val (.int (t.keys : Nat))), some (.val (.list (acc.map ctD))), some (.val (.list (rests.map rwsD))), some (.val (rwsD key)), some (.val (.list ((acc ++ (rests.take i).flatMap fun rest => acc.map fun c => c ++ [key ++ rest]).map ctD))), s9, none]) ⟨s9, by simp⟩ (fun i x ρ1 Q2 hd hi hN2 hR2 => ?_) (fun ρ1 hi => ?_))
    · obtain ⟨s9, rfl⟩ := hi
      rw [List.getElem?_map] at hd
      obtain ⟨rest, hrest, rfl⟩ := Option.map_eq_some_iff.mp hd
      have hrl3 := hrm rest (List.mem_of_getElem? hrest)
      have hil := (List.getElem?_eq_some_iff.mp hrest).1
      have hfl : ((rests.take i).flatMap fun rest => acc.map fun c => c ++ [key ++ rest]).length = i * acc.length := by
        rw [len_fm _ acc.length _ (fun x _ => by simp), List.length_take, Nat.min_eq_left (by omega)]
      have hbd : acc.length + i * acc.length + acc.length ≤ 2000 := by
        have h1 : acc.length * (2 + i) ≤ acc.length * (1 + w.size ^ (t.cols.length - t.keys)) := Nat.mul_le_mul_left _ (by omega)
        have h2 : acc.length * (2 + i) = acc.length + i * acc.length + acc.length := by
          rw [Nat.mul_add, Nat.mul_comm acc.length i, Nat.mul_comm acc.length 2]; omega
        omega
      simp_arith only []
      refine w_bnd (w_lcM acc ctD (fun c => ctD (c ++ [key ++ rest])) (by omega) (fun c hc => by
        have := hlen2 c hc
        have ea : addD (ctD c) (.tuple [rwsD (key ++ rest)]) = some (.val (ctD (c ++ [key ++ rest]))) := add_ct c [key ++ rest] (by simp; omega)
        simp_arith only [lcStep, szK 1 (by decide), add_row key rest (by omega), ea]) ?_)
      have eb : addD (.list ((acc ++ (rests.take i).flatMap fun rest => acc.map fun c => c ++ [key ++ rest]).map ctD)) (.list (acc.map fun c => ctD (c ++ [key ++ rest]))) = some (.own (.list ((acc ++ (rests.take (i + 1)).flatMap fun rest => acc.map fun c => c ++ [key ++ rest]).map ctD))) := by
        rw [addD_list _ _ (by rw [List.length_map, List.length_map, List.length_append, hfl, sizeLine_eq]; omega)]
        have e1 : (rests.take (i + 1)).flatMap (fun rest => acc.map fun c => c ++ [key ++ rest]) = ((rests.take i).flatMap fun rest => acc.map fun c => c ++ [key ++ rest]) ++ acc.map fun c => c ++ [key ++ rest] := by
          rw [List.take_add_one, hrest, List.flatMap_append]
          simp
        have e3 : (acc.map fun c => ctD (c ++ [key ++ rest])) = (acc.map fun c => c ++ [key ++ rest]).map ctD := by rw [List.map_map]; rfl
        rw [e1, e3, ← List.map_append, List.append_assoc]
      simp_arith only [eb]
      exact .ok (hN2 _ ⟨_, rfl⟩)
    · obtain ⟨s9, rfl⟩ := hi
      rw [List.length_map, List.take_length]
      have e2 : acc ++ rests.flatMap (fun rest => acc.map fun c => c ++ [key ++ rest]) = ((tpl w.size t.keys).take (j + 1)).foldl (lcstep w.size t.cols.length t.keys) [[]] := by
        rw [← hst]; unfold lcstep; rw [hR]
      rw [e2]
      simp_arith only []
      rw [← hR]
      exact .ok (hN _ ⟨_, _, _, rfl⟩)
  · obtain ⟨s7, s8, s9, rfl⟩ := hi
    rw [List.length_map, List.take_length]
    simp_arith only []
    exact .ok rfl
theorem ldatabases_eq (ok : w.Ok) (h2 : cnt w.size (w.tabs.map shT) ≤ 2000) : m__law_databases [some (.val (wdD w))] = .ok (.own (.list ((srtDb (dbs (cssW w))).map dbD)), [some (.val (wdD w))]) := by
  have t3 := ok.t3
  have hp : ∀ x ∈ w.tabs.map (fT w), 1 ≤ x := fun x hx => by
    obtain ⟨t, _, rfl⟩ := List.mem_map.mp hx
    exact fT_pos t
  refine W.eq ?_
  simp_arith only [m__law_databases, b__law_databases, ix_tabs, szK 0 (by decide), szK 1 (by decide)]
  refine w_retb (w_forJ (fun j ρ => ∃ s2 s3 s4, ρ = [some (.val (wdD w)), some (.val (.list ((((lcssW w).take j).foldl dstep [[]]).map dbD))), s2, s3, s4, none, none, none]) ⟨_, _, _, rfl⟩ (fun j x ρ1 Q' hd hi hN hR => ?_) (fun ρ1 hi => ?_))
  · obtain ⟨s2, s3, s4, rfl⟩ := hi
    rw [List.getElem?_map] at hd
    obtain ⟨t, ht, rfl⟩ := Option.map_eq_some_iff.mp hd
    have htm := List.mem_of_getElem? ht
    have hj := (List.getElem?_eq_some_iff.mp ht).1
    have hcs : (lcssW w)[j]? = some (lcts w.size t.cols.length t.keys) := by unfold lcssW; rw [List.getElem?_map, ht]; rfl
    have e4 : pr ((w.tabs.map (fT w)).take (j + 1)) = pr ((w.tabs.map (fT w)).take j) * fT w t := by
      rw [List.take_add_one, List.getElem?_map, ht]
      exact pr_snoc _ _
    have h3 := pr_mono hp (j + 1)
    rw [← cnt_pr] at h3
    have h4 : 1 ≤ pr ((w.tabs.map (fT w)).take j) := pr_pos fun x hx => hp x (List.mem_of_mem_take hx)
    have h5 : fT w t ≤ 2000 := by
      have := Nat.mul_le_mul_right (fT w t) h4
      omega
    have hcl0 : (cts w.size t.cols.length t.keys).length = fT w t := by rw [cts_len]; rfl
    have hcl : (lcts w.size t.cols.length t.keys).length = fT w t := by rw [(lcts_perm _ _ _).length_eq, hcl0]
    have hpl : (((lcssW w).take j).foldl dstep [[]]).length = pr ((w.tabs.map (fT w)).take j) := by
      rw [← part_len w j]
      have : ((lcssW w).take j).foldl dstep [[]] = ((w.tabs.take j).map fun t => lcts w.size t.cols.length t.keys).foldl dstep [[]] := by unfold lcssW; rw [List.map_take]
      rw [this]
      have e2 : ((cssW w).take j).foldl dstep [[]] = ((w.tabs.take j).map fun t => cts w.size t.cols.length t.keys).foldl dstep [[]] := by unfold cssW; rw [List.map_take]
      rw [e2]
      exact (dfold_perm _ _ _ (fun t _ => lcts_perm _ _ _) (.refl _)).length_eq
    have hlens := part_lens ((lcssW w).take j) [[]] 0 (fun d hd => by rw [List.mem_singleton.mp hd]; rfl)
    have htl : ((lcssW w).take j).length ≤ 3 := by rw [List.length_take]; omega
    have hst : dstep (((lcssW w).take j).foldl dstep [[]]) (lcts w.size t.cols.length t.keys) = ((lcssW w).take (j + 1)).foldl dstep [[]] := by
      rw [List.take_add_one, hcs, List.foldl_append]; rfl
    generalize hA : ((lcssW w).take j).foldl dstep [[]] = acc at hpl hlens hst
    have hall : acc.length * fT w t ≤ 2000 := by rw [hpl, ← e4]; omega
    simp_arith only [szK 0 (by decide)]
    refine w_bnd (w_forJ (fun i ρ => ∃ s4, ρ = [some (.val (wdD w)), some (.val (.list (acc.map dbD))), some (.val (tbD t)), some (.val (.list ((dstep (acc.take i) (lcts w.size t.cols.length t.keys)).map dbD))), s4, none, none, none]) ⟨s4, rfl⟩ (fun i x ρ1 Q2 hd hi hN2 hR2 => ?_) (fun ρ1 hi => ?_))
    · obtain ⟨s4, rfl⟩ := hi
      rw [List.getElem?_map] at hd
      obtain ⟨d, hdd, rfl⟩ := Option.map_eq_some_iff.mp hd
      have hdl := hlens d (List.mem_of_getElem? hdd)
      have hil := (List.getElem?_eq_some_iff.mp hdd).1
      have hfl : (dstep (acc.take i) (lcts w.size t.cols.length t.keys)).length = i * fT w t := by
        unfold dstep
        rw [len_fm _ (fT w t) _ (fun x _ => by rw [List.length_map, hcl]), List.length_take, Nat.min_eq_left (by omega)]
      have hbd : i * fT w t + fT w t ≤ 2000 := by
        have := Nat.mul_le_mul_right (fT w t) (show i + 1 ≤ acc.length from hil)
        rw [Nat.succ_mul] at this
        omega
      simp_arith only [lcontents_eq ok htm (by omega)]
      refine w_bnd (w_lcM (lcts w.size t.cols.length t.keys) ctD (fun c => dbD (d ++ [c])) (by omega) (fun c hc => by
        simp_arith only [lcStep, szK 1 (by decide), add_db d c (by omega)]) ?_)
      have eb : addD (.list ((dstep (acc.take i) (lcts w.size t.cols.length t.keys)).map dbD)) (.list ((lcts w.size t.cols.length t.keys).map fun c => dbD (d ++ [c]))) = some (.own (.list ((dstep (acc.take (i + 1)) (lcts w.size t.cols.length t.keys)).map dbD))) := by
        rw [addD_list _ _ (by rw [List.length_map, List.length_map, hfl, hcl, sizeLine_eq]; omega)]
        have e1 : dstep (acc.take (i + 1)) (lcts w.size t.cols.length t.keys) = dstep (acc.take i) (lcts w.size t.cols.length t.keys) ++ (lcts w.size t.cols.length t.keys).map fun c => d ++ [c] := by
          unfold dstep
          rw [List.take_add_one, hdd, List.flatMap_append]
          simp
        have e3 : ((lcts w.size t.cols.length t.keys).map fun c => dbD (d ++ [c])) = ((lcts w.size t.cols.length t.keys).map fun c => d ++ [c]).map dbD := by rw [List.map_map]; rfl
        rw [e1, e3, ← List.map_append]
      simp_arith only [eb]
      exact .ok (hN2 _ ⟨_, rfl⟩)
    · obtain ⟨s4, rfl⟩ := hi
      rw [List.length_map, List.take_length, hst]
      simp_arith only []
      exact .ok (hN _ ⟨_, _, _, rfl⟩)
  · obtain ⟨s2, s3, s4, rfl⟩ := hi
    have hl : (lcssW w).length = (w.tabs.map tbD).length := by unfold lcssW; rw [List.length_map, List.length_map]
    rw [← hl, List.take_length]
    have hperm := ldbs_perm w
    have hdl : ((lcssW w).foldl dstep [[]]).length ≤ 2000 := by rw [hperm.length_eq, dbs_lenW]; exact h2
    have hmem : ∀ d ∈ (lcssW w).foldl dstep [[]], d.length ≤ 3 := fun d hd => by
      rw [((mem_dbsW ok).mp (hperm.mem_iff.mp hd)).len]; omega
    have hsd := srtDb_eq hperm (dbs_ndW w)
    generalize (lcssW w).foldl dstep [[]] = L at hdl hmem hsd
    simp_arith only []
    refine w_retb (w_lcM L dbD rkD (by omega) (fun db hdb => ?_) ?_)
    · refine W.eq ?_
      have hdl := hmem db hdb
      have e2 : sumD [.list (db.map fun c => PyData.int (c.length : Nat))] = some (.val (.int (rkN db : Nat))) := by
        have e1 : intsD (db.map fun c => PyData.int (c.length : Nat)) = some ((db.map List.length).map fun (n : Nat) => (n : Int)) := by
          have : ∀ l : List Co, intsD (l.map fun c => PyData.int (c.length : Nat)) = some ((l.map List.length).map fun (n : Nat) => (n : Int)) := fun l => by
            induction l with
            | nil => rfl
            | cons x l ih => rw [List.map_cons, intsD, ih]; rfl
          exact this db
        show (intsD _).map _ = _
        rw [e1, Option.map_some, int_sum]; rfl
      simp_arith only [lcStep, dbD]
      refine w_bnd (w_lcM db ctD (fun c => .int (c.length : Nat)) (by omega) (fun c hc => by
        unfold ctD
        simp_arith only [lcStep, List.length_map]) ?_)
      simp_arith only [e2, szK 2 (by decide)]
      exact .ok rfl
    · have es : sortD [.list (L.map rkD)] = some (.own (.list ((srtDb L).map rkD))) := by
        show (if okSort (L.map rkD) = true then some (Sl.own (.list (sortL (L.map rkD)))) else none) = _
        rw [if_pos (sort_rk (by omega)), sortL_rk]
      simp_arith only [es]
      refine w_retb (w_lcM (srtDb L) rkD dbD (by rw [(srtDb_perm L).length_eq]; omega) (fun db hdb => by
        have i1 : ixA (rkD db) (.int 1) = some (.val (dbD db)) := by unfold rkD; simp_arith only []
        simp_arith only [lcStep, i1]) ?_)
      rw [hsd]
      simp_arith only []
      exact .ok rfl
/-! ### what databases tells -/
theorem told_ok (ok : w.Ok) {b : Nat} (h : cnt w.size (w.tabs.map shT) ≤ b) (h2 : cnt w.size (w.tabs.map shT) ≤ 2000) :
    m__law_told [some (.val (scD w)), some (.val (.int (b : Nat)))] = .ok (.val (.tuple [.str "told", .list ((srtDb (dbs (cssW w))).map dbD)]), [some (.val (scD w)), some (.val (.int (b : Nat)))]) := by
  have hh : hasM "Schema" "databases" (scD w) = true := hasM_of _ (by decide +kernel) (by decide +kernel) (by decide +kernel)
  have hs : ∀ l : List D, stD [.str "told", .list l] = false := fun l => rfl
  have hl : ∀ l : List D, lstr [.str "told", .list l] = true := fun l => rfl
  simp_arith only [m__law_told, b__law_told, e_noNx]
  unfold sTryX
  by_cases h0 : b = 1000
  · subst h0
    have e : m_Schema_databases [some (.val (scD w)), some (.val (.int 1000))] = _ := dbs_eq ok h h2
    simp_arith only [e_tupX, e_ownX, okXK_str, okXK_list, hh, e, show (((1000 : Nat) : Int) = 1000) = True from eq_true rfl, decide_true, hl, hs, nxK_ret, eq_true (show 2 ≤ sizeLine by rw [sizeLine_eq]; decide), and_self]
  · have e := dbs_eq ok h h2
    simp_arith only [e_tupX, e_ownX, okXK_str, okXK_list, hh, e, decide_eq_false (show ¬(((b : Nat) : Int) = 1000) by omega), hl, hs, nxK_ret, eq_true (show 2 ≤ sizeLine by rw [sizeLine_eq]; decide), and_self]
theorem told_many (ok : w.Ok) {b : Nat} (h : b < cnt w.size (w.tabs.map shT)) :
    m__law_told [some (.val (scD w)), some (.val (.int (b : Nat)))] = .ok (.val (.tuple [.str "many", .int (b : Nat)]), [some (.val (scD w)), some (.val (.int (b : Nat)))]) := by
  have hh : hasM "Schema" "databases" (scD w) = true := hasM_of _ (by decide +kernel) (by decide +kernel) (by decide +kernel)
  simp_arith only [m__law_told, b__law_told, e_noNx]
  unfold sTryX
  by_cases h0 : b = 1000
  · subst h0
    have e : m_Schema_databases [some (.val (scD w)), some (.val (.int 1000))] = .ex "TooMany" [(.str "limit", .int 1000)] [some (.val (scD w)), some (.val (.int 1000))] := dbs_ex ok h
    simp_arith only [e_tupX, e_ownX, okXK_str, okXK_list, hh, e, show (((1000 : Nat) : Int) = 1000) = True from eq_true rfl, decide_true]
    rfl
  · have e := dbs_ex ok h
    simp_arith only [e_tupX, e_ownX, okXK_str, okXK_list, hh, e, decide_eq_false (show ¬(((b : Nat) : Int) = 1000) by omega)]
    rfl
end
end K16
namespace K16
open PySem L2 Fr Sh Dk
local macro_rules
  | `(tactic| simp_arith only [$xs,*] $[$l:location]?) => `(tactic| simp -dsimp -implicitDefEqProofs only [Fr.bnd_ok, Fr.bnd_bad, Fr.bnd_ex, Fr.bnd_bnd, Fr.bnd_ite, Fr.e_fzO, Fr.e_fzv, Fr.e_fzo, Fr.e_fzr, Fr.e_fzs, Fr.e_var0, Fr.look_zero, Fr.look_succ, Fr.e_var, Fr.atV_val, Fr.atV_own, Fr.e_c, Fr.e_giv, Fr.e_rvv, Fr.e_rvo, Fr.own1_own, Fr.e_rd1v, Fr.e_rd1r, Fr.e_m2, Fr.e_m1, Fr.toB_bool, Fr.e_mB, Fr.e_and, Fr.e_or, Fr.e_not, Fr.e_andV, Fr.e_orV, Fr.e_notV, Fr.e_ite, Fr.chB_b, Fr.e_ch, Fr.e_anil, Fr.e_acons, Fr.rds_nil, Fr.rds_cons, Fr.e_mN, Fr.valsK_nil, Fr.valsK_cons, Fr.e_tup, Fr.e_lst, Fr.fin_val, Fr.fin_own, Fr.fin_ex, Fr.e_callF, Fr.nd_nil, Fr.nd_val, Fr.nd_ref, Fr.pos_nil, Fr.pos_val, Fr.pos_ref, Fr.arg_val, Fr.own2_own, Fr.arg_ref, Fr.wb_nil, Fr.wb_val, Fr.wb_ref, Fr.e_fn, Fr.rdR_val, Fr.e_meth, Fr.e_ownAt, Fr.tyK_list, Fr.tyK_str, Fr.e_mM, Fr.mutK_some, Fr.e_mut, Fr.e_sl, Fr.e_pno, Fr.toI_int, Fr.e_pI, Fr.itK_some, Fr.seqD_list, Fr.seqD_tuple, Fr.e_iQ, Fr.e_for, Fr.e_lc, Fr.e_gN, Fr.e_gT, Fr.e_gsNil, Fr.e_gsCons, Fr.freeB_none, Fr.freeB_val, Fr.freeB_own, Fr.e_okSet, Fr.e_next, Fr.e_brk, Fr.e_cont, Fr.seqK_next, Fr.seqK_ret, Fr.seqK_brk, Fr.seqK_cont, Fr.e_seq, Fr.e_if, Fr.retK_val, Fr.retK_own, Fr.retK_ref, Fr.e_ret, Fr.e_expr, Fr.e_setV, Fr.ownR_own, Fr.e_setO, Fr.outK_some, Fr.e_sTup, Fr.e_noX, Fr.e_prp, Fr.newO_ok, Fr.e_new, Fr.optK_some, Fr.optK_none, Fr.e_fldO, Fr.idxS_str, Fr.idxR_tup, Fr.idxR_list, Fr.e_idx, Fr.e_get2, Fr.toV_b, Fr.e_inO, Fr.e_frzE, Fr.e_sfrz, Fr.e_fzBt, Fr.e_fzBf, Fr.e_par2, Fr.e_outO, Fr.setR_val, Fr.setR_own, Fr.e_dnil, Fr.e_dcons, Fr.e_disp, Fr.e_isi, Fr.e_isi2, Fr.isiK_int, Fr.isiK_str, Fr.isiK_tup, Fr.isiK_lst, Fr.isiK_non, Fr.isiK2_tup, Fr.isiK2_lst, Fr.isiB_ii, Fr.isiB_bi, Fr.isiB_ti, Fr.isiB_si, Fr.isiB_tt, Fr.isiB_ts, Fr.isiB_ss, Fr.isiB_st, Fr.isiB_lt, Fr.isiB_ll, Fr.isiB_tl, Fr.isiB_tn, Fr.isiB_sn, Fr.one1_val, Fr.enK_list, Fr.enK_tup, Fr.e_iE, Fr.e_iR1, Fr.o_ltI, Fr.o_leI, Fr.o_gtI, Fr.o_geI, Fr.o_eqI, Fr.o_neI, Fr.o_eqS, Fr.o_neS, Fr.o_addI, Fr.o_subI, Fr.o_ixL, Fr.o_ixT, Fr.at0, Fr.at1, Fr.at2, Fr.at3, Fr.o_isNn, Fr.o_lenL, Fr.o_lenT, Fr.o_tupL, Fr.o_tupT, Fr.o_lstL, Fr.o_lstT, Fr.retO_ret, Fr.retO_next, Fr.retO_bad, Fr.retO_ite, Fr.e_run, Fr.outE_nil, Fr.outE_val, Fr.outE_own, Fr.l_map0, Fr.l_map, Fr.l_app0, Fr.l_app1, Fr.l_app, Fr.l_rep0, Fr.l_rep, Fr.l_set0, Fr.l_set, Fr.l_len0, Fr.l_len, Fr.l_tk0, Fr.l_tk, Fr.o_map, Fr.o_bind, Fr.b_and1, Fr.b_and0, Fr.b_or1, Fr.b_or0, Fr.b_andr, Fr.b_not1, Fr.b_not0, Fr.b_nef, Fr.b_net, Fr.o_none1, Fr.o_none2, Fr.size_0, Fr.d_true, Fr.d_false, Fr.b_tt, Fr.b_ft, Fr.wipe_nil, Fr.wipe_one, Fr.back_nil, Fr.back_one, Fr.e_yes, ↓reduceIte, Nat.reduceSub, Nat.reduceAdd, Nat.reduceLeDiff, Nat.reduceLT, Nat.reduceEqDiff, Int.reduceLT, Int.reduceLE, Int.reduceEq, Int.reduceAdd, Int.reduceSub, Int.reduceNeg, reduceCtorEq, $xs,*] $[$l:location]?)
/-! ### the law -/
def shA (s : Str) : Nat × List (Nat × Nat) := if s = "2 11" then (2, [(1, 1)]) else if s = "2 21 11" then (2, [(2, 1), (1, 1)]) else if s = "2 22" then (2, [(2, 2)]) else if s = "3 21" then (3, [(2, 1)]) else if s = "2 31 11" then (2, [(3, 1), (1, 1)]) else if s = "2 11 21 11" then (2, [(1, 1), (2, 1), (1, 1)]) else if s = "4 11" then (4, [(1, 1)]) else if s = "2 32" then (2, [(3, 2)]) else if s = "2 33" then (2, [(3, 3)]) else (2, [(2, 1), (2, 1)])
def shpsA : List Str := ["2 11", "2 21 11", "2 22", "3 21", "2 31 11", "2 11 21 11", "4 11", "2 32", "2 33", "2 21 21"]
theorem shA_ok {s : Str} (h : s ∈ shpsA) : ShIs s (shA s).1 (shA s).2 := by
  simp only [shpsA, List.mem_cons, List.not_mem_nil, or_false] at h
  rcases h with rfl | rfl | rfl | rfl | rfl | rfl | rfl | rfl | rfl | rfl
  · rw [show shA "2 11" = (2, [(1, 1)]) by decide +kernel]
    exact shis_mk (z := "2") 2 [(1, 1)] (by decide +kernel) (by decide) (by decide +kernel) (by decide) (by decide) (by decide)
  · rw [show shA "2 21 11" = (2, [(2, 1), (1, 1)]) by decide +kernel]
    exact shis_mk (z := "2") 2 [(2, 1), (1, 1)] (by decide +kernel) (by decide) (by decide +kernel) (by decide) (by decide) (by decide)
  · rw [show shA "2 22" = (2, [(2, 2)]) by decide +kernel]
    exact shis_mk (z := "2") 2 [(2, 2)] (by decide +kernel) (by decide) (by decide +kernel) (by decide) (by decide) (by decide)
  · rw [show shA "3 21" = (3, [(2, 1)]) by decide +kernel]
    exact shis_mk (z := "3") 3 [(2, 1)] (by decide +kernel) (by decide) (by decide +kernel) (by decide) (by decide) (by decide)
  · rw [show shA "2 31 11" = (2, [(3, 1), (1, 1)]) by decide +kernel]
    exact shis_mk (z := "2") 2 [(3, 1), (1, 1)] (by decide +kernel) (by decide) (by decide +kernel) (by decide) (by decide) (by decide)
  · rw [show shA "2 11 21 11" = (2, [(1, 1), (2, 1), (1, 1)]) by decide +kernel]
    exact shis_mk (z := "2") 2 [(1, 1), (2, 1), (1, 1)] (by decide +kernel) (by decide) (by decide +kernel) (by decide) (by decide) (by decide)
  · rw [show shA "4 11" = (4, [(1, 1)]) by decide +kernel]
    exact shis_mk (z := "4") 4 [(1, 1)] (by decide +kernel) (by decide) (by decide +kernel) (by decide) (by decide) (by decide)
  · rw [show shA "2 32" = (2, [(3, 2)]) by decide +kernel]
    exact shis_mk (z := "2") 2 [(3, 2)] (by decide +kernel) (by decide) (by decide +kernel) (by decide) (by decide) (by decide)
  · rw [show shA "2 33" = (2, [(3, 3)]) by decide +kernel]
    exact shis_mk (z := "2") 2 [(3, 3)] (by decide +kernel) (by decide) (by decide +kernel) (by decide) (by decide) (by decide)
  · rw [show shA "2 21 21" = (2, [(2, 1), (2, 1)]) by decide +kernel]
    exact shis_mk (z := "2") 2 [(2, 1), (2, 1)] (by decide +kernel) (by decide) (by decide +kernel) (by decide) (by decide) (by decide)
theorem shA_cnt {s : Str} (h : s ∈ shpsA) : cnt (shA s).1 (shA s).2 ≤ 256 ∧ ∀ nk ∈ (shA s).2, (shA s).1 ^ nk.2 ≤ 8 := by
  simp only [shpsA, List.mem_cons, List.not_mem_nil, or_false] at h
  rcases h with rfl | rfl | rfl | rfl | rfl | rfl | rfl | rfl | rfl | rfl
  · rw [show shA "2 11" = (2, [(1, 1)]) by decide +kernel]; decide +kernel
  · rw [show shA "2 21 11" = (2, [(2, 1), (1, 1)]) by decide +kernel]; decide +kernel
  · rw [show shA "2 22" = (2, [(2, 2)]) by decide +kernel]; decide +kernel
  · rw [show shA "3 21" = (3, [(2, 1)]) by decide +kernel]; decide +kernel
  · rw [show shA "2 31 11" = (2, [(3, 1), (1, 1)]) by decide +kernel]; decide +kernel
  · rw [show shA "2 11 21 11" = (2, [(1, 1), (2, 1), (1, 1)]) by decide +kernel]; decide +kernel
  · rw [show shA "4 11" = (4, [(1, 1)]) by decide +kernel]; decide +kernel
  · rw [show shA "2 32" = (2, [(3, 2)]) by decide +kernel]; decide +kernel
  · rw [show shA "2 33" = (2, [(3, 3)]) by decide +kernel]; decide +kernel
  · rw [show shA "2 21 21" = (2, [(2, 1), (2, 1)]) by decide +kernel]; decide +kernel
section
variable {w : Wd}
theorem ct_len8 (ok : w.Ok) (h8 : ∀ t ∈ w.tabs, w.size ^ t.keys ≤ 8) {t : Tb} (ht : t ∈ w.tabs) {rs : Co} (h : Ct w t rs) : rs.length ≤ 8 := by
  have k2 := (ok.tb t ht).k2
  have hm : rs ∈ cts w.size t.cols.length t.keys := (cts_iff k2).mpr ⟨h.rows, h.keys⟩
  have := ((Tl.keys k2 (fun x hx => mem_tpl.mp hx) (mem_cts.mp hm)).1).length_le
  rw [List.length_map, tpl_len] at this
  exact Nat.le_trans this (h8 t ht)
theorem gd_db (ok : w.Ok) (h8 : ∀ t ∈ w.tabs, w.size ^ t.keys ≤ 8) {db : DB} (h : DbI w db) : Gd 603 3 (dbD db) := by
  have t3 := ok.t3
  refine gd_tup (GdA.upto (w := 200) (n := 3) (fun d hd => ?_) (by rw [List.length_map, h.len]; exact t3))
  obtain ⟨rs, hrs, rfl⟩ := List.mem_map.mp hd
  obtain ⟨j, hj⟩ := List.mem_iff_getElem?.mp hrs
  have hjl := (List.getElem?_eq_some_iff.mp hj).1
  have hj2 : j < w.tabs.length := by rw [← h.len]; exact hjl
  have ht : w.tabs[j]? = some (w.tabs[j]'hj2) := List.getElem?_eq_getElem hj2
  have hc := h.row j _ rs ht hj
  have htm := List.mem_of_getElem? ht
  exact gd_tup ((gd_rows ok htm hc.rows (ct_len8 ok h8 htm hc)).mono (by decide) (Nat.le_refl _))
theorem gd_told (ok : w.Ok) (h8 : ∀ t ∈ w.tabs, w.size ^ t.keys ≤ 8) {L : List DB} (hl : L.length ≤ 256) (hm : ∀ db ∈ L, DbI w db) : Gd 160000 5 (.tuple [.str "told", .list (L.map dbD)]) := by
  have g1 : Gd (256 * 604) 4 (.list (L.map dbD)) := gd_lst (GdA.upto (fun d hd => by
    obtain ⟨db, hdb, rfl⟩ := List.mem_map.mp hd
    exact gd_db ok h8 (hm db hdb)) (by rw [List.length_map]; exact hl))
  have g2 : Gd 4 4 (.str "told") := gd_str (by decide +kernel) (by decide +kernel)
  exact (gd_tup (GdA.cons g2 (GdA.cons g1 (GdA.nil.mono (Nat.le_refl _) (Nat.zero_le _))))).mono (by decide) (Nat.le_refl _)
theorem ints300 : ∀ n, n < 300 → (PyData.shown (.int (n : Nat))).length ≤ 13 ∧ PyData.weight (.int (n : Nat)) ≤ 20 ∧ (PyData.showable (.int (n : Nat))) = true := by decide +kernel
theorem gd_many {b : Nat} (h : b < 300) : Gd 100 2 (.tuple [.str "many", .int (b : Nat)]) := by
  obtain ⟨h1, h2, h3⟩ := ints300 b h
  have g1 : Gd 20 1 (.int (b : Nat)) := ⟨rfl, h3, by rw [PyData.intsShort]; exact decide_eq_true h1, h2, Nat.zero_le _⟩
  have g2 : Gd 4 1 (.str "many") := gd_str (by decide +kernel) (by decide +kernel)
  exact (gd_tup (GdA.cons g2 (GdA.cons g1 (GdA.nil.mono (Nat.le_refl _) (Nat.zero_le _))))).mono (by decide) (Nat.le_refl _)
theorem gd_tpls (ok : w.Ok) {t : Tb} (ht : t ∈ w.tabs) : Gd 2000 2 (.list ((tpl w.size t.cols.length).map rwsD)) := by
  refine (gd_lst (gd_rows ok ht (fun r hr => (mem_tpl.mp hr)) (n := 64) ?_)).mono (by decide) (Nat.le_refl _)
  rw [tpl_len]
  exact pow_le ok.s4 (ok.tb t ht).l3
end
def hid1 (x : Option Sl) : Option Sl := match x with
  | some (.own _) => none
  | x => x
theorem hide_var {x : Option Sl} {ρ : EV} : hideO (x :: ρ) = hid1 x :: hideO ρ := rfl
theorem hid1_val {d : D} : hid1 (some (.val d)) = some (.val d) := rfl
theorem hid1_own {d : D} : hid1 (some (.own d)) = none := rfl
theorem hid1_none : hid1 none = none := rfl
theorem par1 {d : D} {ρ : EV} : parOk 1 (some (.val d) :: ρ) = true := rfl
theorem plain : Plain m_law 63 := by
  intro ns hl
  obtain ⟨d0, e0, b0⟩ := bag_ex ns hl
  have r2 : ∀ ρ, rgK ρ (.int 2) = .ok (rngD 0 2, ρ) := fun ρ => rgK_small (n := 2) (by decide)
  have r3 : ∀ ρ, rgK ρ (.int 3) = .ok (rngD 0 3, ρ) := fun ρ => rgK_small (n := 3) (by decide)
  have hr : ∀ w : Wd, hasM "Schema" "rows" (scD w) = true := fun w => hasM_of _ (by decide +kernel) (by decide +kernel) (by decide +kernel)
  have hw : W (m_law [some (.val (scrD ns))]) fun x => x.1 = .val (.bool true) := by
    simp_arith only [m_law, b_law, k_bag, e0, r2]
    refine w_retb (w_forJ (fun j ρ => ∃ d s3 s4 s5 s6 s7 s8 s9 s10 s11 s12 s2, ρ = [some (.val (scrD ns)), some (.own d), s2, s3, s4, s5, s6, s7, s8, s9, s10, s11, s12, none] ∧ Bg (100 * j) d) ⟨d0, none, none, none, none, none, none, none, none, none, none, none, rfl, b0⟩ (fun j x ρ1 Q1 hd hi hN _ => ?_) (fun ρ1 hi => ?_))
    · obtain ⟨d, s3, s4, s5, s6, s7, s8, s9, s10, s11, s12, s2, rfl, b⟩ := hi
      obtain ⟨hj, rfl⟩ := rng_get hd
      obtain ⟨w, d1, e1, ⟨ok, s, hs, hsz, hsh⟩, b1⟩ := world_sh shpsA shA (fun s h => shA_ok h) (by decide) (by decide) b (by omega)
      replace e1 : Sh.m__law_world [some (.own d), some (.val (.list [.str "2 11", .str "2 21 11", .str "2 22", .str "3 21", .str "2 31 11", .str "2 11 21 11", .str "4 11", .str "2 32", .str "2 33", .str "2 21 21"]))] = .ok (.own (wdD w), [some (.own d1), some (.val (.list [.str "2 11", .str "2 21 11", .str "2 22", .str "3 21", .str "2 31 11", .str "2 11 21 11", .str "4 11", .str "2 32", .str "2 33", .str "2 21 21"]))]) := e1
      have hcnt : cnt w.size (w.tabs.map shT) ≤ 256 := by rw [hsz, hsh]; exact (shA_cnt hs).1
      have h8 : ∀ t ∈ w.tabs, w.size ^ t.keys ≤ 8 := fun t ht => by
        have : shT t ∈ (shA s).2 := by rw [← hsh]; exact List.mem_map_of_mem ht
        rw [hsz]; exact (shA_cnt hs).2 _ this
      have hLl : (srtDb (dbs (cssW w))).length = cnt w.size (w.tabs.map shT) := by rw [(srtDb_perm _).length_eq, dbs_lenW]
      have hLm : ∀ db ∈ srtDb (dbs (cssW w)), DbI w db := fun db h => (mem_dbsW ok).mp ((srtDb_perm _).mem_iff.mp h)
      have hL1 : 1 ≤ (srtDb (dbs (cssW w))).length := by
        rw [hLl, cnt_pr]
        exact pr_pos fun x hx => by
          obtain ⟨t, _, rfl⟩ := List.mem_map.mp hx
          exact fT_pos t
      have tok1 := fun {b : Nat} (h : cnt w.size (w.tabs.map shT) ≤ b) => told_ok ok h (by omega)
      have tok2 := fun {b : Nat} (h : b < cnt w.size (w.tabs.map shT)) => told_many ok h
      have eld := ldatabases_eq ok (by omega)
      generalize hLg : srtDb (dbs (cssW w)) = L at hLl hLm hL1 tok1 eld
      simp_arith only [szK 10 (by decide), k_world, e1, k_schema, schema_eq ok, eld, r3]
      have ur : ∀ ds : List D, uReverse (.list ds) [] = some (.list ds.reverse, .none) := fun _ => rfl
      have q1 : eqD (.str "told") (.str "told") = some (.val (.bool true)) := by rw [eqD_str, decide_eq_true rfl]
      have q2 : eqD (.str "many") (.str "told") = some (.val (.bool false)) := by rw [eqD_str, decide_eq_false (by decide +kernel)]
      refine w_forJ (fun i ρ => ∃ d s7 s8 s9 s10 s11 s12, ρ = [some (.val (scrD ns)), some (.own d), some (.val (.int (j : Nat))), some (.val (.list [.str "2 11", .str "2 21 11", .str "2 22", .str "3 21", .str "2 31 11", .str "2 11 21 11", .str "4 11", .str "2 32", .str "2 33", .str "2 21 21"])), some (.val (wdD w)), some (.val (scD w)), some (.val (.list (L.map dbD))), s7, s8, s9, s10, s11, s12, none] ∧ Bg (100 * j + 20 + 10 * i) d) ⟨d1, _, _, _, _, _, _, rfl, b1.mono (by omega)⟩ (fun i x ρ1 Q2 hd hi hN2 _ => ?_) (fun ρ1 hi => ?_)
      · obtain ⟨d, s7, s8, s9, s10, s11, s12, rfl, b⟩ := hi
        obtain ⟨hi3, rfl⟩ := rng_get hd
        have t3 := ok.t3
        simp_arith only [ix_tabs]
        refine w_bnd (w_forJ (fun k ρ => ∃ s8 s9 s10 s11, ρ = [some (.val (scrD ns)), some (.own d), some (.val (.int (j : Nat))), some (.val (.list [.str "2 11", .str "2 21 11", .str "2 22", .str "3 21", .str "2 31 11", .str "2 11 21 11", .str "4 11", .str "2 32", .str "2 33", .str "2 21 21"])), some (.val (wdD w)), some (.val (scD w)), some (.val (.list (L.map dbD))), some (.val (.int (i : Nat))), s8, s9, s10, s11, s12, none]) ⟨_, _, _, _, rfl⟩ (fun k x ρ1 Q3 hd hi hN3 _ => ?_) (fun ρ1 hi => ?_))
        · obtain ⟨s8, s9, s10, s11, rfl⟩ := hi
          rw [List.getElem?_map] at hd
          obtain ⟨t, ht, rfl⟩ := Option.map_eq_some_iff.mp hd
          have htm := List.mem_of_getElem? ht
          have hlt : (tpl w.size t.cols.length).length ≤ 64 := by rw [tpl_len]; exact pow_le ok.s4 (ok.tb t htm).l3
          simp_arith only [tbD, hr, rows_eq ok htm, ix_size, List.length_map, ltuples_eq ok.s4 (ok.tb t htm).l3, k_alike, alike_own (gd_tpls ok htm) (by decide) (by decide), ur, Sh.app_ok (xs := ((tpl w.size t.cols.length).map rwsD).reverse) (y := .none) (by rw [List.length_reverse, List.length_map]; omega)]
          exact .ok (hN3 _ ⟨_, _, _, _, rfl⟩)
        · obtain ⟨s8, s9, s10, s11, rfl⟩ := hi
          obtain ⟨v, d2, e2, v0, v1, b2⟩ := take_ex (many := (L.length : Nat)) b (by omega) (by omega) (by omega)
          have em : maxD [.int 1, .int ((L.length : Nat) - 1)] = some (.val (.int (if ((L.length : Nat) : Int) - 1 > 1 then ((L.length : Nat) : Int) - 1 else 1))) := rfl
          simp_arith only [List.length_map, k_take, e2, em, szK 5 (by decide)]
          refine w_forJ (fun k ρ => ∃ s12, ρ = [some (.val (scrD ns)), some (.own d2), some (.val (.int (j : Nat))), some (.val (.list [.str "2 11", .str "2 21 11", .str "2 22", .str "3 21", .str "2 31 11", .str "2 11 21 11", .str "4 11", .str "2 32", .str "2 33", .str "2 21 21"])), some (.val (wdD w)), some (.val (scD w)), some (.val (.list (L.map dbD))), some (.val (.int (i : Nat))), s8, s9, s10, s11, s12, none]) ⟨_, rfl⟩ (fun k x ρ1 Q3 hd hi hN3 _ => ?_) (fun ρ1 hi => ?_)
          · obtain ⟨s12, rfl⟩ := hi
            obtain ⟨c, rfl⟩ : ∃ c : Nat, x = .int (c : Nat) := by
              have hm := List.mem_of_getElem? hd
              simp only [List.mem_cons, List.not_mem_nil, or_false] at hm
              rcases hm with rfl | rfl | rfl | rfl | rfl
              · exact ⟨1000, rfl⟩
              · exact ⟨L.length, rfl⟩
              · exact ⟨L.length + 1, by rw [Int.natCast_add]; rfl⟩
              · exact ⟨(1 + v).toNat, by rw [Int.toNat_of_nonneg (by omega)]⟩
              · refine ⟨(if ((L.length : Nat) : Int) - 1 > 1 then ((L.length : Nat) : Int) - 1 else 1).toNat, ?_⟩
                rw [Int.toNat_of_nonneg (by split <;> omega)]
            clear hd
            simp_arith only [e_scopeB, par1, hide_nil, hide_var, hid1_val, hid1_own, hid1_none, List.length_cons, List.length_nil, show decide (13 < 0 + 1 + 1 + 1 + 1 + 1 + 1 + 1 + 1 + 1 + 1 + 1 + 1 + 1 + 1) = true from by decide]
            by_cases hb : cnt w.size (w.tabs.map shT) ≤ c
            · simp_arith only [tok1 hb, List.length_map, decide_eq_true (show ((L.length : Nat) : Int) ≤ ((c : Nat) : Int) by omega), szK 2 (by decide), k_alike, alike_eq (gd_told ok h8 (show L.length ≤ 256 by omega) hLm) (by decide) (by decide), q1, mutOk1 (d := .str "told") (nm := 2) (a := L.map dbD) (by rw [List.length_map, sizeLine_eq]; omega)]
              exact .ok (hN3 _ ⟨_, rfl⟩)
            · have hb : c < cnt w.size (w.tabs.map shT) := by omega
              simp_arith only [tok2 hb, List.length_map, decide_eq_false (show ¬(((L.length : Nat) : Int) ≤ ((c : Nat) : Int)) by omega), szK 2 (by decide), k_alike, alike_eq (gd_many (show c < 300 by omega)) (by decide) (by decide), q2]
              exact .ok (hN3 _ ⟨_, rfl⟩)
          · obtain ⟨s12, rfl⟩ := hi
            exact hN2 _ ⟨d2, _, _, _, _, _, _, rfl, b2.mono (by omega)⟩
      · obtain ⟨d, s7, s8, s9, s10, s11, s12, rfl, b⟩ := hi
        rw [rng_len] at b
        exact hN _ ⟨d, _, _, _, _, _, _, _, _, _, _, _, rfl, b.mono (by omega)⟩
    · obtain ⟨d, s3, s4, s5, s6, s7, s8, s9, s10, s11, s12, s2, rfl, b⟩ := hi
      simp_arith only []
      exact .ok rfl
  obtain ⟨⟨v, ρ⟩, e, q⟩ := hw.ex
  have q : v = .val (.bool true) := q
  subst q
  exact ⟨ρ, e⟩
end K16
namespace K16
open PySem L2 Fr
theorem walk {l : PySem.W.OpenLaw} {q : Program} {loose : List Str} {XP : (Str → Option Value) → Heap → Prop} {YP : World → Heap → Prop} {d : DefRec} {K : Params → PySem.W.Frag} (hn : l.most = some 63) (hdf : d.params.defaults = [])
    (hY : ∀ (w : World) (h : Heap), YP w h → (K w.params).In h)
    (Fl : ∀ (w : World) (mg : Str → Option Value) (fa : Addr) (h : Heap), (K w.params).In h → h.Ns mainGlobals mg → mg d.name = some (.ref fa) →
      ∃ fd : FuncData, (∀ (s : Shared) (u : Value), BindsTo s fd ⟨[u], []⟩ [("_law_script", u)]) ∧ ∀ bs : Heap, (K w.params).In bs → bs.Ns mainGlobals mg → FnG l.prog w (K w.params) mg bs 7 fa fd ["_law_script"] (fun vs H Q E => ∀ cl, SpF ⟨K w.params, cl⟩ m_law vs H Q E)) :
    PySem.W.WalkO q loose XP YP l.row.toRowW d [] (fun f vs => PySem.call f vs) :=
  Fr.walk_g (n := 63) (k := 7) (x := "_law_script") (sp := fun w vs H Q E => ∀ cl, SpF ⟨K w.params, cl⟩ m_law vs H Q E) hn (by decide) hdf ⟨rfl, by decide, by decide⟩ hY Fl fun w H a ns hl _ hS cl => sp_end plain hl hS
end K16
local macro_rules | `(tactic| kernel_rfl) => `(tactic| (with_reducible refine K16.split3 (K16.look1 _ _) (K16.look2 _ ?_ _ _) ?_ <;> kernel_rfl))
open PySem PySem.W PyProof.Rows in
set_option maxRecDepth 100000 in
set_option maxHeartbeats 0 in
theorem PySem.Challenge.cw_firingrules_k16_rows_and_databases_in_or_holds : PySem.Challenge.rw_firingrules_k16_rows_and_databases_in_or.Holds := by
  refine K16.row0 fun said => ?_
  w_on; k_headL; (case hw => w_witness2)
  k_fill
  refine K16.walk (l := PySem.Challenge.rw_firingrules_k16_rows_and_databases_in_or) rfl rfl (fun w h Y => by first | exact PySem.W.kIn_of Y | exact PySem.W.km_in_of Y) ?F
  case F =>
   as_aux_lemma =>
    intro w mg fa h KX G hmg
    refine' K16.all_mk KX G hmg ?g_LONGEST_NAME ?g_MOST_COLUMNS ?g_MOST_TABLES ?g_MOST_SIZE ?g_LEAST_SIZE ?aC_Schema ?pg_Schema ?hd_Schema ?po_Schema ?sa_Schema ?mk_Schema ?kc_Schema ?aC_RuleError ?aC_TooMany ?tyR ?rdR ?atR ?gaR ?lx_TooMany ?rv_TooMany ?sa_TooMany ?be_TooMany ?ty_TooMany ?kc_TooMany ?in_TooMany ?ti_TooMany ?nf_TooMany ?lI_TooMany ?cI_TooMany ?kI_TooMany ?ggE ?tkE ?ga_TooMany ?gt_TooMany ?su_TooMany ?hd_TooMany ?cc_TooMany ?mr_TooMany ?sx_TooMany ?hx_TooMany ?tx_TooMany ?em_TooMany_TooMany ?nf_Schema_own_tables ?nf_Schema_value_count ?nf_Schema_spots ?a0 ?l0 ?c0 ?k0 ?a1 ?l1 ?c1 ?k1 ?a2 ?l2 ?c2 ?k2 ?a3 ?l3 ?c3 ?k3 ?a4 ?l4 ?c4 ?k4 ?a5 ?i5 ?j5 ?r5 ?l5 ?c5 ?k5 ?a6 ?i6 ?l6 ?c6 ?k6 ?lD6 ?a7 ?l7 ?c7 ?k7 ?a8 ?l8 ?c8 ?k8 ?a9 ?l9 ?c9 ?k9 ?a10 ?i10 ?l10 ?c10 ?k10 ?a11 ?i11 ?l11 ?c11 ?k11 ?a12 ?l12 ?c12 ?k12 ?a13 ?l13 ?c13 ?k13 ?a14 ?l14 ?c14 ?k14 ?a15 ?l15 ?c15 ?k15 ?a16 ?l16 ?c16 ?k16 ?a17 ?i17 ?l17 ?c17 ?k17 ?a18 ?l18 ?c18 ?k18 ?a19 ?l19 ?c19 ?k19 ?a20 ?l20 ?c20 ?k20 ?a21 ?l21 ?c21 ?k21 ?a22 ?l22 ?c22 ?k22 ?a23 ?l23 ?c23 ?k23 ?a24 ?l24 ?c24 ?k24 ?n_len ?n_range ?n_isinstance ?n_all ?n_any ?n_tuple ?n_list ?n_sorted ?n_set ?n_sum ?n_repr ?n_int ?n_abs ?n_max ?n_min ?n_enumerate ?n_zip ?n_str ?n_bool ?n_dict
    (case g_LONGEST_NAME => k_is)
    (case g_MOST_COLUMNS => k_is)
    (case g_MOST_TABLES => k_is)
    (case g_MOST_SIZE => k_is)
    (case g_LEAST_SIZE => k_is)
    (case aC_Schema => k_is)
    (case pg_Schema => k_is)
    (case hd_Schema => k_is)
    (case po_Schema => k_is)
    (case sa_Schema => k_is)
    (case mk_Schema => k_is)
    (case kc_Schema => k_is)
    (case aC_RuleError => k_is)
    (case aC_TooMany => k_is)
    (case tyR => k_is)
    (case rdR => k_is)
    (case atR => k_is)
    (case gaR => k_is)
    (case lx_TooMany => k_is)
    (case rv_TooMany => first | k_is | rfl | decide)
    (case sa_TooMany => k_is)
    (case be_TooMany => k_is)
    (case ty_TooMany => k_is)
    (case kc_TooMany => k_is)
    (case in_TooMany => k_is)
    (case ti_TooMany => k_is)
    (case nf_TooMany => k_is)
    (case lI_TooMany => k_is)
    (case cI_TooMany => k_is)
    (case kI_TooMany => k_is)
    (case ggE => k_is)
    (case tkE => k_is)
    (case ga_TooMany => k_is)
    (case gt_TooMany => k_is)
    (case su_TooMany => k_is)
    (case hd_TooMany => k_is)
    (case cc_TooMany => k_is)
    (case mr_TooMany => k_is)
    (case sx_TooMany => k_is)
    (case hx_TooMany => k_is)
    (case tx_TooMany => k_is)
    (case em_TooMany_TooMany => k_is)
    (case nf_Schema_own_tables => k_is)
    (case nf_Schema_value_count => k_is)
    (case nf_Schema_spots => k_is)
    (case a0 => k_is)
    (case l0 => k_is)
    (case c0 => k_is)
    (case k0 => k_is)
    (case a1 => k_is)
    (case l1 => k_is)
    (case c1 => k_is)
    (case k1 => k_is)
    (case a2 => k_is)
    (case l2 => k_is)
    (case c2 => k_is)
    (case k2 => k_is)
    (case a3 => k_is)
    (case l3 => k_is)
    (case c3 => k_is)
    (case k3 => k_is)
    (case a4 => k_is)
    (case l4 => k_is)
    (case c4 => k_is)
    (case k4 => k_is)
    (case a5 => k_is)
    (case i5 => k_is)
    (case j5 => k_is)
    (case r5 => k_is)
    (case l5 => k_is)
    (case c5 => k_is)
    (case k5 => k_is)
    (case a6 => k_is)
    (case i6 => k_is)
    (case l6 => k_is)
    (case c6 => k_is)
    (case k6 => k_is)
    (case lD6 => k_is)
    (case a7 => k_is)
    (case l7 => k_is)
    (case c7 => k_is)
    (case k7 => k_is)
    (case a8 => k_is)
    (case l8 => k_is)
    (case c8 => k_is)
    (case k8 => k_is)
    (case a9 => k_is)
    (case l9 => k_is)
    (case c9 => k_is)
    (case k9 => k_is)
    (case a10 => k_is)
    (case i10 => k_is)
    (case l10 => k_is)
    (case c10 => k_is)
    (case k10 => k_is)
    (case a11 => k_is)
    (case i11 => k_is)
    (case l11 => k_is)
    (case c11 => k_is)
    (case k11 => k_is)
    (case a12 => k_is)
    (case l12 => k_is)
    (case c12 => k_is)
    (case k12 => k_is)
    (case a13 => k_is)
    (case l13 => k_is)
    (case c13 => k_is)
    (case k13 => k_is)
    (case a14 => k_is)
    (case l14 => k_is)
    (case c14 => k_is)
    (case k14 => k_is)
    (case a15 => k_is)
    (case l15 => k_is)
    (case c15 => k_is)
    (case k15 => k_is)
    (case a16 => k_is)
    (case l16 => k_is)
    (case c16 => k_is)
    (case k16 => k_is)
    (case a17 => k_is)
    (case i17 => k_is)
    (case l17 => k_is)
    (case c17 => k_is)
    (case k17 => k_is)
    (case a18 => k_is)
    (case l18 => k_is)
    (case c18 => k_is)
    (case k18 => k_is)
    (case a19 => k_is)
    (case l19 => k_is)
    (case c19 => k_is)
    (case k19 => k_is)
    (case a20 => k_is)
    (case l20 => k_is)
    (case c20 => k_is)
    (case k20 => k_is)
    (case a21 => k_is)
    (case l21 => k_is)
    (case c21 => k_is)
    (case k21 => k_is)
    (case a22 => k_is)
    (case l22 => k_is)
    (case c22 => k_is)
    (case k22 => k_is)
    (case a23 => k_is)
    (case l23 => k_is)
    (case c23 => k_is)
    (case k23 => k_is)
    (case a24 => k_is)
    (case l24 => k_is)
    (case c24 => k_is)
    (case k24 => k_is)
    (case n_len => k_is)
    (case n_range => k_is)
    (case n_isinstance => k_is)
    (case n_all => k_is)
    (case n_any => k_is)
    (case n_tuple => k_is)
    (case n_list => k_is)
    (case n_sorted => k_is)
    (case n_set => k_is)
    (case n_sum => k_is)
    (case n_repr => k_is)
    (case n_int => k_is)
    (case n_abs => k_is)
    (case n_max => k_is)
    (case n_min => k_is)
    (case n_enumerate => k_is)
    (case n_zip => k_is)
    (case n_str => k_is)
    (case n_bool => k_is)
    (case n_dict => k_is)
